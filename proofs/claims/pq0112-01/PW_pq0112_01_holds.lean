import PyProof.Rows.All
import Wide.All
import OpenK.AllK
import Wide.FinOn
import PyProof.ExcBaseAll.Exception
import PySem.Challenge.RW_pq0112_01
open PySem PySem.W PySem.Calls PyProof.Rows
set_option Elab.async false
set_option maxRecDepth 100000
set_option maxHeartbeats 8000000

namespace Mine
/-! the head: what stands when the law is called -/
abbrev rw0 : OpenLaw := PySem.Challenge.rw_pq0112_01
abbrev prg : Program := PySem.Challenge.rw_pq0112_01.row.prog
/-- a part of the program's text, by its place -/
def nS : List Stmt → Nat → Stmt
  | s :: _, 0 => s
  | _ :: l, n + 1 => nS l n
  | [], _ => .Pass ⟨0, 0, 0, 0⟩
noncomputable def tS (n : Nat) : Stmt := nS prg.main.body n
def dN : Stmt → Str
  | .FunctionDef n .. => n
  | _ => Str.ofString ""
def dA : Stmt → Arguments
  | .FunctionDef _ a .. => a
  | _ => ⟨[], [], none, [], [], none, []⟩
def dB : Stmt → List Stmt
  | .FunctionDef _ _ b .. => b
  | .ClassDef _ _ _ b .. => b
  | _ => []
def dS : Stmt → Scope
  | .FunctionDef _ _ _ _ _ _ s .. => s
  | _ => { kind := .function, names := [], isGenerator := false, isCoroutine := false }
abbrev fnO (s : Stmt) (qual : Str) (pm : Value) (c : Addr) : Obj := { cls := Value.type "function", data := Data.func (fnOf (dN s) qual (dA s) (dB s) (dS s) .none .none .none pm none (.ref c) .none) }
abbrev fnT (s : Stmt) (qual : Str) : Obj := { cls := Value.none, data := Data.func { name := dN s, qualname := qual, params := dA s, body := .stmts (dB s), scope := dS s, globals := 0, closure := [], defaults := .none, kwdefaults := .none } }
/-- the objects that the proof looks at -/
noncomputable def kf : Params → Frag := fun P =>
  (nat_lit 2, { cls := Value.none, data := Data.dict #[{ hash := PyData.keyHash P (Str.ofString "type.__subclasses__.Exception.0"), key := Value.str (Str.ofString "type.__subclasses__.Exception.0") 230, val := Value.int 47 0 }, { hash := PyData.keyHash P (Str.ofString "type.__subclasses__.Exception.n"), key := Value.str (Str.ofString "type.__subclasses__.Exception.n") 231, val := Value.int 1 0 }] 2 }) ::
  (nat_lit 3, { cls := Value.type "dict", data := Data.dict #[{ hash := PyData.keyHash P (Str.ofString "__name__"), key := Value.str (Str.ofString "__name__") 165, val := Value.str (Str.ofString "law_pq0112_01") 421 }, { hash := PyData.keyHash P (Str.ofString "__doc__"), key := Value.str (Str.ofString "__doc__") 166, val := Value.none }, { hash := PyData.keyHash P (Str.ofString "__package__"), key := Value.str (Str.ofString "__package__") 167, val := Value.none }, { hash := PyData.keyHash P (Str.ofString "__loader__"), key := Value.str (Str.ofString "__loader__") 168, val := Value.builtin "__main__.__loader__#opaque" }, { hash := PyData.keyHash P (Str.ofString "__spec__"), key := Value.str (Str.ofString "__spec__") 169, val := Value.none }, { hash := PyData.keyHash P (Str.ofString "__annotations__"), key := Value.str (Str.ofString "__annotations__") 170, val := Value.ref 6 }, { hash := PyData.keyHash P (Str.ofString "__builtins__"), key := Value.str (Str.ofString "__builtins__") 171, val := Value.ref 4 }, { hash := PyData.keyHash P (Str.ofString "__file__"), key := Value.str (Str.ofString "__file__") 173, val := Value.str (Str.ofString "/claim/cut.py") 172 }, { hash := PyData.keyHash P (Str.ofString "__cached__"), key := Value.str (Str.ofString "__cached__") 174, val := Value.none }, { hash := PyData.keyHash P (Str.ofString "_wall"), key := Value.str (Str.ofString "_wall") 193, val := Value.ref 21 }, { hash := PyData.keyHash P (Str.ofString "HeapError"), key := Value.str (Str.ofString "HeapError") 233, val := Value.ref 47 }, { hash := PyData.keyHash P (Str.ofString "TermFault"), key := Value.str (Str.ofString "TermFault") 249, val := Value.ref 60 }, { hash := PyData.keyHash P (Str.ofString "is_op"), key := Value.str (Str.ofString "is_op") 257, val := Value.ref 67 }, { hash := PyData.keyHash P (Str.ofString "is_variable"), key := Value.str (Str.ofString "is_variable") 264, val := Value.ref 74 }, { hash := PyData.keyHash P (Str.ofString "variables"), key := Value.str (Str.ofString "variables") 270, val := Value.ref 79 }, { hash := PyData.keyHash P (Str.ofString "is_ground"), key := Value.str (Str.ofString "is_ground") 277, val := Value.ref 86 }, { hash := PyData.keyHash P (Str.ofString "parts"), key := Value.str (Str.ofString "parts") 283, val := Value.ref 91 }, { hash := PyData.keyHash P (Str.ofString "renamed"), key := Value.str (Str.ofString "renamed") 289, val := Value.ref 96 }, { hash := PyData.keyHash P (Str.ofString "Bank"), key := Value.str (Str.ofString "Bank") 420, val := Value.ref 198 }, { hash := PyData.keyHash P (Str.ofString "_law_signs"), key := Value.str (Str.ofString "_law_signs") 424, val := Value.str (Str.ofString "az?-0 \t\n()[]{},:") 423 }, { hash := PyData.keyHash P (Str.ofString "_law_barred"), key := Value.str (Str.ofString "_law_barred") 430, val := Value.ref 209 }, { hash := PyData.keyHash P (Str.ofString "_law_ops"), key := Value.str (Str.ofString "_law_ops") 436, val := Value.ref 216 }, { hash := PyData.keyHash P (Str.ofString "_law_feed"), key := Value.str (Str.ofString "_law_feed") 442, val := Value.ref 221 }, { hash := PyData.keyHash P (Str.ofString "_law_dip"), key := Value.str (Str.ofString "_law_dip") 452, val := Value.ref 228 }, { hash := PyData.keyHash P (Str.ofString "_law_is_word"), key := Value.str (Str.ofString "_law_is_word") 460, val := Value.ref 235 }, { hash := PyData.keyHash P (Str.ofString "_law_drawn"), key := Value.str (Str.ofString "_law_drawn") 466, val := Value.ref 240 }, { hash := PyData.keyHash P (Str.ofString "_law_flat"), key := Value.str (Str.ofString "_law_flat") 476, val := Value.ref 247 }, { hash := PyData.keyHash P (Str.ofString "_law_names"), key := Value.str (Str.ofString "_law_names") 486, val := Value.ref 254 }, { hash := PyData.keyHash P (Str.ofString "_law_different"), key := Value.str (Str.ofString "_law_different") 496, val := Value.ref 261 }, { hash := PyData.keyHash P (Str.ofString "_law_is_bank_right"), key := Value.str (Str.ofString "_law_is_bank_right") 502, val := Value.ref 266 }, { hash := PyData.keyHash P (Str.ofString "_law_is_named_right"), key := Value.str (Str.ofString "_law_is_named_right") 510, val := Value.ref 273 }, { hash := PyData.keyHash P (Str.ofString "law"), key := Value.str (Str.ofString "law") 516, val := Value.ref 278 }] 32 }) ::
  (nat_lit 25, { cls := Value.type "cell", data := Data.cell (some (Value.ref 47)) }) ::
  (nat_lit 36, { cls := Value.type "code", data := Data.fields #[Value.str (Str.ofString "__init__") 208, Value.str (Str.ofString "HeapError.__init__") 209, Value.str (Str.ofString "/claim/cut.py") 210, Value.int 7 0, Value.int 2 0, Value.int 0 0, Value.int 0 0, Value.int 3 0, Value.ref 31, Value.bool true, Value.int 181 0, Value.ref 32, Value.none, Value.ref 33, Value.ref 34, Value.ref 35, Value.int 214 0, Value.int 7 0, Value.str (Str.ofString "/claim/cut.py") 215] }) ::
  (nat_lit 37, { cls := Value.type "function", data := Data.func (ksFn (dN (nS (dB (tS 2)) 0)) (Str.ofString "HeapError.__init__") (dA (nS (dB (tS 2)) 0)) (dB (nS (dB (tS 2)) 0)) (dS (nS (dB (tS 2)) 0)) .none .none .none (Value.str (Str.ofString "alikeheap.errors") 194) none (.ref 36) (.ref 30) 25) }) ::
  (nat_lit 46, { cls := Value.type "dict", data := Data.dict #[{ hash := PyData.keyHash P (Str.ofString "__module__"), key := Value.str (Str.ofString "__module__") 203, val := Value.str (Str.ofString "alikeheap.errors") 194 }, { hash := PyData.keyHash P (Str.ofString "__firstlineno__"), key := Value.str (Str.ofString "__firstlineno__") 207, val := Value.int 5 206 }, { hash := PyData.keyHash P (Str.ofString "__init__"), key := Value.str (Str.ofString "__init__") 216, val := Value.ref 37 }, { hash := PyData.keyHash P (Str.ofString "told"), key := Value.str (Str.ofString "told") 223, val := Value.ref 44 }, { hash := PyData.keyHash P (Str.ofString "__static_attributes__"), key := Value.str (Str.ofString "__static_attributes__") 225, val := Value.ref 45 }, { hash := PyData.keyHash P (Str.ofString "__weakref__"), key := Value.str (Str.ofString "__weakref__") 228, val := Value.ref 48 }, { hash := PyData.keyHash P (Str.ofString "__doc__"), key := Value.str (Str.ofString "__doc__") 229, val := Value.none }] 4 }) ::
  (nat_lit 47, { cls := Value.type "type", data := Data.cls { name := Str.ofString "HeapError", bases := [Value.type "Exception"], mro := [Value.ref 47, Value.type "Exception", Value.type "BaseException", Value.type "object"], ns := 46, qualname := Str.ofString "HeapError", subclasses := [Value.ref 60] }, slots := #[some (Value.ref 22), none, some (Value.str (Str.ofString "HeapError") 196), some (Value.str (Str.ofString "HeapError") 204), some (Value.builtin "Exception.__new__"), some (Value.bool true)] }) ::
  (nat_lit 59, { cls := Value.type "dict", data := Data.dict #[{ hash := PyData.keyHash P (Str.ofString "__module__"), key := Value.str (Str.ofString "__module__") 241, val := Value.str (Str.ofString "alikeheap.errors") 194 }, { hash := PyData.keyHash P (Str.ofString "__firstlineno__"), key := Value.str (Str.ofString "__firstlineno__") 245, val := Value.int 13 244 }, { hash := PyData.keyHash P (Str.ofString "__static_attributes__"), key := Value.str (Str.ofString "__static_attributes__") 246, val := Value.ref 58 }, { hash := PyData.keyHash P (Str.ofString "__doc__"), key := Value.str (Str.ofString "__doc__") 247, val := Value.none }] 2 }) ::
  (nat_lit 60, { cls := Value.type "type", data := Data.cls { name := Str.ofString "TermFault", bases := [Value.ref 47], mro := [Value.ref 60, Value.ref 47, Value.type "Exception", Value.type "BaseException", Value.type "object"], ns := 59, qualname := Str.ofString "TermFault" }, slots := #[some (Value.ref 51), none, some (Value.str (Str.ofString "TermFault") 234), some (Value.str (Str.ofString "TermFault") 242), some (Value.builtin "Exception.__new__"), some (Value.bool true)] }) ::
  (nat_lit 66, { cls := Value.type "code", data := Data.fields #[Value.str (Str.ofString "is_op") 252, Value.str (Str.ofString "is_op") 253, Value.str (Str.ofString "/claim/cut.py") 254, Value.int 16 0, Value.int 1 0, Value.int 0 0, Value.int 0 0, Value.int 3 0, Value.ref 63, Value.bool true, Value.int 181 0, Value.ref 64, Value.none, Value.none, Value.none, Value.ref 65, Value.int 255 0, Value.int 16 0, Value.str (Str.ofString "/claim/cut.py") 256] }) ::
  (nat_lit 67, fnO (tS 5) (Str.ofString "is_op") (Value.str (Str.ofString "alikeheap.terms") 250) 66) ::
  (nat_lit 73, { cls := Value.type "code", data := Data.fields #[Value.str (Str.ofString "is_variable") 258, Value.str (Str.ofString "is_variable") 259, Value.str (Str.ofString "/claim/cut.py") 260, Value.int 18 0, Value.int 1 0, Value.int 0 0, Value.int 0 0, Value.int 3 0, Value.ref 68, Value.bool true, Value.int 181 0, Value.ref 69, Value.none, Value.ref 70, Value.ref 71, Value.ref 72, Value.int 262 0, Value.int 18 0, Value.str (Str.ofString "/claim/cut.py") 263] }) ::
  (nat_lit 74, fnO (tS 6) (Str.ofString "is_variable") (Value.str (Str.ofString "alikeheap.terms") 250) 73) ::
  (nat_lit 78, { cls := Value.type "code", data := Data.fields #[Value.str (Str.ofString "variables") 265, Value.str (Str.ofString "variables") 266, Value.str (Str.ofString "/claim/cut.py") 267, Value.int 20 0, Value.int 1 0, Value.int 0 0, Value.int 0 0, Value.int 3 0, Value.ref 75, Value.bool true, Value.int 181 0, Value.ref 76, Value.none, Value.none, Value.none, Value.ref 77, Value.int 268 0, Value.int 20 0, Value.str (Str.ofString "/claim/cut.py") 269] }) ::
  (nat_lit 79, fnO (tS 7) (Str.ofString "variables") (Value.str (Str.ofString "alikeheap.terms") 250) 78) ::
  (nat_lit 85, { cls := Value.type "code", data := Data.fields #[Value.str (Str.ofString "is_ground") 271, Value.str (Str.ofString "is_ground") 272, Value.str (Str.ofString "/claim/cut.py") 273, Value.int 22 0, Value.int 1 0, Value.int 0 0, Value.int 0 0, Value.int 3 0, Value.ref 80, Value.bool true, Value.int 181 0, Value.ref 81, Value.none, Value.ref 82, Value.ref 83, Value.ref 84, Value.int 275 0, Value.int 22 0, Value.str (Str.ofString "/claim/cut.py") 276] }) ::
  (nat_lit 86, fnO (tS 8) (Str.ofString "is_ground") (Value.str (Str.ofString "alikeheap.terms") 250) 85) ::
  (nat_lit 90, { cls := Value.type "code", data := Data.fields #[Value.str (Str.ofString "parts") 278, Value.str (Str.ofString "parts") 279, Value.str (Str.ofString "/claim/cut.py") 280, Value.int 24 0, Value.int 1 0, Value.int 0 0, Value.int 0 0, Value.int 3 0, Value.ref 87, Value.bool true, Value.int 181 0, Value.ref 88, Value.none, Value.none, Value.none, Value.ref 89, Value.int 281 0, Value.int 24 0, Value.str (Str.ofString "/claim/cut.py") 282] }) ::
  (nat_lit 91, fnO (tS 9) (Str.ofString "parts") (Value.str (Str.ofString "alikeheap.terms") 250) 90) ::
  (nat_lit 95, { cls := Value.type "code", data := Data.fields #[Value.str (Str.ofString "renamed") 284, Value.str (Str.ofString "renamed") 285, Value.str (Str.ofString "/claim/cut.py") 286, Value.int 29 0, Value.int 2 0, Value.int 0 0, Value.int 0 0, Value.int 3 0, Value.ref 92, Value.bool true, Value.int 181 0, Value.ref 93, Value.none, Value.none, Value.none, Value.ref 94, Value.int 287 0, Value.int 29 0, Value.str (Str.ofString "/claim/cut.py") 288] }) ::
  (nat_lit 96, fnO (tS 10) (Str.ofString "renamed") (Value.str (Str.ofString "alikeheap.terms") 250) 95) ::
  (nat_lit 109, { cls := Value.type "code", data := Data.fields #[Value.str (Str.ofString "__init__") 302, Value.str (Str.ofString "Bank.__init__") 303, Value.str (Str.ofString "/claim/cut.py") 304, Value.int 33 0, Value.int 1 0, Value.int 0 0, Value.int 0 0, Value.int 3 0, Value.ref 104, Value.bool true, Value.int 181 0, Value.ref 105, Value.none, Value.ref 106, Value.ref 107, Value.ref 108, Value.int 306 0, Value.int 33 0, Value.str (Str.ofString "/claim/cut.py") 307] }) ::
  (nat_lit 110, fnO (nS (dB (tS 11)) 0) (Str.ofString "Bank.__init__") (Value.str (Str.ofString "alikeheap.terms") 250) 109) ::
  (nat_lit 116, { cls := Value.type "code", data := Data.fields #[Value.str (Str.ofString "size") 309, Value.str (Str.ofString "Bank.size") 310, Value.str (Str.ofString "/claim/cut.py") 311, Value.int 39 0, Value.int 1 0, Value.int 0 0, Value.int 0 0, Value.int 3 0, Value.ref 111, Value.bool true, Value.int 181 0, Value.ref 112, Value.none, Value.ref 113, Value.ref 114, Value.ref 115, Value.int 313 0, Value.int 39 0, Value.str (Str.ofString "/claim/cut.py") 314] }) ::
  (nat_lit 117, fnO (nS (dB (tS 11)) 1) (Str.ofString "Bank.size") (Value.str (Str.ofString "alikeheap.terms") 250) 116) ::
  (nat_lit 121, { cls := Value.type "code", data := Data.fields #[Value.str (Str.ofString "take") 316, Value.str (Str.ofString "Bank.take") 317, Value.str (Str.ofString "/claim/cut.py") 318, Value.int 42 0, Value.int 3 0, Value.int 0 0, Value.int 0 0, Value.int 3 0, Value.ref 118, Value.bool true, Value.int 181 0, Value.ref 119, Value.none, Value.none, Value.none, Value.ref 120, Value.int 319 0, Value.int 42 0, Value.str (Str.ofString "/claim/cut.py") 320] }) ::
  (nat_lit 122, fnO (nS (dB (tS 11)) 2) (Str.ofString "Bank.take") (Value.str (Str.ofString "alikeheap.terms") 250) 121) ::
  (nat_lit 128, { cls := Value.type "code", data := Data.fields #[Value.str (Str.ofString "require") 322, Value.str (Str.ofString "Bank.require") 323, Value.str (Str.ofString "/claim/cut.py") 324, Value.int 56 0, Value.int 2 0, Value.int 0 0, Value.int 0 0, Value.int 3 0, Value.ref 123, Value.bool true, Value.int 181 0, Value.ref 124, Value.none, Value.ref 125, Value.ref 126, Value.ref 127, Value.int 327 0, Value.int 56 0, Value.str (Str.ofString "/claim/cut.py") 328] }) ::
  (nat_lit 129, fnO (nS (dB (tS 11)) 3) (Str.ofString "Bank.require") (Value.str (Str.ofString "alikeheap.terms") 250) 128) ::
  (nat_lit 135, { cls := Value.type "code", data := Data.fields #[Value.str (Str.ofString "put") 330, Value.str (Str.ofString "Bank.put") 331, Value.str (Str.ofString "/claim/cut.py") 332, Value.int 60 0, Value.int 2 0, Value.int 0 0, Value.int 0 0, Value.int 3 0, Value.ref 130, Value.bool true, Value.int 181 0, Value.ref 131, Value.none, Value.ref 132, Value.ref 133, Value.ref 134, Value.int 337 0, Value.int 60 0, Value.str (Str.ofString "/claim/cut.py") 338] }) ::
  (nat_lit 136, fnO (nS (dB (tS 11)) 4) (Str.ofString "Bank.put") (Value.str (Str.ofString "alikeheap.terms") 250) 135) ::
  (nat_lit 140, { cls := Value.type "code", data := Data.fields #[Value.str (Str.ofString "put_all") 340, Value.str (Str.ofString "Bank.put_all") 341, Value.str (Str.ofString "/claim/cut.py") 342, Value.int 65 0, Value.int 2 0, Value.int 0 0, Value.int 0 0, Value.int 3 0, Value.ref 137, Value.bool true, Value.int 181 0, Value.ref 138, Value.none, Value.none, Value.none, Value.ref 139, Value.int 343 0, Value.int 65 0, Value.str (Str.ofString "/claim/cut.py") 344] }) ::
  (nat_lit 141, fnO (nS (dB (tS 11)) 5) (Str.ofString "Bank.put_all") (Value.str (Str.ofString "alikeheap.terms") 250) 140) ::
  (nat_lit 154, { cls := Value.type "code", data := Data.fields #[Value.str (Str.ofString "op") 354, Value.str (Str.ofString "Bank.op") 355, Value.str (Str.ofString "/claim/cut.py") 356, Value.int 71 0, Value.int 2 0, Value.int 0 0, Value.int 0 0, Value.int 3 0, Value.ref 149, Value.bool true, Value.int 181 0, Value.ref 150, Value.none, Value.ref 151, Value.ref 152, Value.ref 153, Value.int 359 0, Value.int 71 0, Value.str (Str.ofString "/claim/cut.py") 360] }) ::
  (nat_lit 155, fnO (nS (dB (tS 11)) 7) (Str.ofString "Bank.op") (Value.str (Str.ofString "alikeheap.terms") 250) 154) ::
  (nat_lit 161, { cls := Value.type "code", data := Data.fields #[Value.str (Str.ofString "kids") 362, Value.str (Str.ofString "Bank.kids") 363, Value.str (Str.ofString "/claim/cut.py") 364, Value.int 74 0, Value.int 2 0, Value.int 0 0, Value.int 0 0, Value.int 3 0, Value.ref 156, Value.bool true, Value.int 181 0, Value.ref 157, Value.none, Value.ref 158, Value.ref 159, Value.ref 160, Value.int 367 0, Value.int 74 0, Value.str (Str.ofString "/claim/cut.py") 368] }) ::
  (nat_lit 162, fnO (nS (dB (tS 11)) 8) (Str.ofString "Bank.kids") (Value.str (Str.ofString "alikeheap.terms") 250) 161) ::
  (nat_lit 173, { cls := Value.type "code", data := Data.fields #[Value.str (Str.ofString "term") 378, Value.str (Str.ofString "Bank.term") 379, Value.str (Str.ofString "/claim/cut.py") 380, Value.int 80 0, Value.int 2 0, Value.int 0 0, Value.int 0 0, Value.int 3 0, Value.ref 170, Value.bool true, Value.int 181 0, Value.ref 171, Value.none, Value.none, Value.none, Value.ref 172, Value.int 381 0, Value.int 80 0, Value.str (Str.ofString "/claim/cut.py") 382] }) ::
  (nat_lit 174, fnO (nS (dB (tS 11)) 10) (Str.ofString "Bank.term") (Value.str (Str.ofString "alikeheap.terms") 250) 173) ::
  (nat_lit 197, { cls := Value.type "dict", data := Data.dict #[{ hash := PyData.keyHash P (Str.ofString "__module__"), key := Value.str (Str.ofString "__module__") 297, val := Value.str (Str.ofString "alikeheap.terms") 250 }, { hash := PyData.keyHash P (Str.ofString "__firstlineno__"), key := Value.str (Str.ofString "__firstlineno__") 301, val := Value.int 31 300 }, { hash := PyData.keyHash P (Str.ofString "__init__"), key := Value.str (Str.ofString "__init__") 308, val := Value.ref 110 }, { hash := PyData.keyHash P (Str.ofString "size"), key := Value.str (Str.ofString "size") 315, val := Value.ref 117 }, { hash := PyData.keyHash P (Str.ofString "take"), key := Value.str (Str.ofString "take") 321, val := Value.ref 122 }, { hash := PyData.keyHash P (Str.ofString "require"), key := Value.str (Str.ofString "require") 329, val := Value.ref 129 }, { hash := PyData.keyHash P (Str.ofString "put"), key := Value.str (Str.ofString "put") 339, val := Value.ref 136 }, { hash := PyData.keyHash P (Str.ofString "put_all"), key := Value.str (Str.ofString "put_all") 345, val := Value.ref 141 }, { hash := PyData.keyHash P (Str.ofString "cut"), key := Value.str (Str.ofString "cut") 353, val := Value.ref 148 }, { hash := PyData.keyHash P (Str.ofString "op"), key := Value.str (Str.ofString "op") 361, val := Value.ref 155 }, { hash := PyData.keyHash P (Str.ofString "kids"), key := Value.str (Str.ofString "kids") 369, val := Value.ref 162 }, { hash := PyData.keyHash P (Str.ofString "node"), key := Value.str (Str.ofString "node") 377, val := Value.ref 169 }, { hash := PyData.keyHash P (Str.ofString "term"), key := Value.str (Str.ofString "term") 383, val := Value.ref 174 }, { hash := PyData.keyHash P (Str.ofString "weight"), key := Value.str (Str.ofString "weight") 391, val := Value.ref 181 }, { hash := PyData.keyHash P (Str.ofString "depth"), key := Value.str (Str.ofString "depth") 399, val := Value.ref 188 }, { hash := PyData.keyHash P (Str.ofString "seek"), key := Value.str (Str.ofString "seek") 408, val := Value.ref 195 }, { hash := PyData.keyHash P (Str.ofString "__static_attributes__"), key := Value.str (Str.ofString "__static_attributes__") 413, val := Value.ref 196 }, { hash := PyData.keyHash P (Str.ofString "__dict__"), key := Value.str (Str.ofString "__dict__") 415, val := Value.ref 199 }, { hash := PyData.keyHash P (Str.ofString "__weakref__"), key := Value.str (Str.ofString "__weakref__") 417, val := Value.ref 200 }, { hash := PyData.keyHash P (Str.ofString "__doc__"), key := Value.str (Str.ofString "__doc__") 418, val := Value.none }] 4 }) ::
  (nat_lit 198, { cls := Value.type "type", data := Data.cls { name := Str.ofString "Bank", bases := [Value.type "object"], mro := [Value.ref 198, Value.type "object"], ns := 197, qualname := Str.ofString "Bank" }, slots := #[none, none, some (Value.str (Str.ofString "Bank") 290), some (Value.str (Str.ofString "Bank") 298), some (Value.builtin "object.__new__"), some (Value.bool true)] }) ::
  (nat_lit 208, { cls := Value.type "code", data := Data.fields #[Value.str (Str.ofString "_law_barred") 425, Value.str (Str.ofString "_law_barred") 426, Value.str (Str.ofString "/claim/cut.py") 427, Value.int 102 0, Value.int 0 0, Value.int 0 0, Value.int 0 0, Value.int 3 0, Value.ref 203, Value.bool true, Value.int 181 0, Value.ref 204, Value.none, Value.ref 205, Value.ref 206, Value.ref 207, Value.int 428 0, Value.int 102 0, Value.str (Str.ofString "/claim/cut.py") 429] }) ::
  (nat_lit 209, fnO (tS 14) (Str.ofString "_law_barred") (Value.str (Str.ofString "law_pq0112_01") 421) 208) ::
  (nat_lit 215, { cls := Value.type "code", data := Data.fields #[Value.str (Str.ofString "_law_ops") 431, Value.str (Str.ofString "_law_ops") 432, Value.str (Str.ofString "/claim/cut.py") 433, Value.int 104 0, Value.int 0 0, Value.int 0 0, Value.int 0 0, Value.int 3 0, Value.ref 210, Value.bool true, Value.int 181 0, Value.ref 211, Value.none, Value.ref 212, Value.ref 213, Value.ref 214, Value.int 434 0, Value.int 104 0, Value.str (Str.ofString "/claim/cut.py") 435] }) ::
  (nat_lit 216, fnO (tS 15) (Str.ofString "_law_ops") (Value.str (Str.ofString "law_pq0112_01") 421) 215) ::
  (nat_lit 220, { cls := Value.type "code", data := Data.fields #[Value.str (Str.ofString "_law_feed") 437, Value.str (Str.ofString "_law_feed") 438, Value.str (Str.ofString "/claim/cut.py") 439, Value.int 106 0, Value.int 1 0, Value.int 0 0, Value.int 0 0, Value.int 3 0, Value.ref 217, Value.bool true, Value.int 181 0, Value.ref 218, Value.none, Value.none, Value.none, Value.ref 219, Value.int 440 0, Value.int 106 0, Value.str (Str.ofString "/claim/cut.py") 441] }) ::
  (nat_lit 221, fnO (tS 16) (Str.ofString "_law_feed") (Value.str (Str.ofString "law_pq0112_01") 421) 220) ::
  (nat_lit 227, { cls := Value.type "code", data := Data.fields #[Value.str (Str.ofString "_law_dip") 443, Value.str (Str.ofString "_law_dip") 444, Value.str (Str.ofString "/claim/cut.py") 445, Value.int 108 0, Value.int 2 0, Value.int 0 0, Value.int 0 0, Value.int 3 0, Value.ref 222, Value.bool true, Value.int 181 0, Value.ref 223, Value.none, Value.ref 224, Value.ref 225, Value.ref 226, Value.int 450 0, Value.int 108 0, Value.str (Str.ofString "/claim/cut.py") 451] }) ::
  (nat_lit 228, fnO (tS 17) (Str.ofString "_law_dip") (Value.str (Str.ofString "law_pq0112_01") 421) 227) ::
  (nat_lit 234, { cls := Value.type "code", data := Data.fields #[Value.str (Str.ofString "_law_is_word") 453, Value.str (Str.ofString "_law_is_word") 454, Value.str (Str.ofString "/claim/cut.py") 455, Value.int 114 0, Value.int 1 0, Value.int 0 0, Value.int 0 0, Value.int 3 0, Value.ref 229, Value.bool true, Value.int 181 0, Value.ref 230, Value.none, Value.ref 231, Value.ref 232, Value.ref 233, Value.int 458 0, Value.int 114 0, Value.str (Str.ofString "/claim/cut.py") 459] }) ::
  (nat_lit 235, fnO (tS 18) (Str.ofString "_law_is_word") (Value.str (Str.ofString "law_pq0112_01") 421) 234) ::
  (nat_lit 239, { cls := Value.type "code", data := Data.fields #[Value.str (Str.ofString "_law_drawn") 461, Value.str (Str.ofString "_law_drawn") 462, Value.str (Str.ofString "/claim/cut.py") 463, Value.int 119 0, Value.int 2 0, Value.int 0 0, Value.int 0 0, Value.int 3 0, Value.ref 236, Value.bool true, Value.int 181 0, Value.ref 237, Value.none, Value.none, Value.none, Value.ref 238, Value.int 464 0, Value.int 119 0, Value.str (Str.ofString "/claim/cut.py") 465] }) ::
  (nat_lit 240, fnO (tS 19) (Str.ofString "_law_drawn") (Value.str (Str.ofString "law_pq0112_01") 421) 239) ::
  (nat_lit 246, { cls := Value.type "code", data := Data.fields #[Value.str (Str.ofString "_law_flat") 467, Value.str (Str.ofString "_law_flat") 468, Value.str (Str.ofString "/claim/cut.py") 469, Value.int 123 0, Value.int 1 0, Value.int 0 0, Value.int 0 0, Value.int 3 0, Value.ref 241, Value.bool true, Value.int 181 0, Value.ref 242, Value.none, Value.ref 243, Value.ref 244, Value.ref 245, Value.int 474 0, Value.int 123 0, Value.str (Str.ofString "/claim/cut.py") 475] }) ::
  (nat_lit 247, fnO (tS 20) (Str.ofString "_law_flat") (Value.str (Str.ofString "law_pq0112_01") 421) 246) ::
  (nat_lit 253, { cls := Value.type "code", data := Data.fields #[Value.str (Str.ofString "_law_names") 477, Value.str (Str.ofString "_law_names") 478, Value.str (Str.ofString "/claim/cut.py") 479, Value.int 130 0, Value.int 1 0, Value.int 0 0, Value.int 0 0, Value.int 3 0, Value.ref 248, Value.bool true, Value.int 181 0, Value.ref 249, Value.none, Value.ref 250, Value.ref 251, Value.ref 252, Value.int 484 0, Value.int 130 0, Value.str (Str.ofString "/claim/cut.py") 485] }) ::
  (nat_lit 254, fnO (tS 21) (Str.ofString "_law_names") (Value.str (Str.ofString "law_pq0112_01") 421) 253) ::
  (nat_lit 260, { cls := Value.type "code", data := Data.fields #[Value.str (Str.ofString "_law_different") 487, Value.str (Str.ofString "_law_different") 488, Value.str (Str.ofString "/claim/cut.py") 489, Value.int 136 0, Value.int 1 0, Value.int 0 0, Value.int 0 0, Value.int 3 0, Value.ref 255, Value.bool true, Value.int 181 0, Value.ref 256, Value.none, Value.ref 257, Value.ref 258, Value.ref 259, Value.int 494 0, Value.int 136 0, Value.str (Str.ofString "/claim/cut.py") 495] }) ::
  (nat_lit 261, fnO (tS 22) (Str.ofString "_law_different") (Value.str (Str.ofString "law_pq0112_01") 421) 260) ::
  (nat_lit 265, { cls := Value.type "code", data := Data.fields #[Value.str (Str.ofString "_law_is_bank_right") 497, Value.str (Str.ofString "_law_is_bank_right") 498, Value.str (Str.ofString "/claim/cut.py") 499, Value.int 144 0, Value.int 2 0, Value.int 0 0, Value.int 0 0, Value.int 3 0, Value.ref 262, Value.bool true, Value.int 181 0, Value.ref 263, Value.none, Value.none, Value.none, Value.ref 264, Value.int 500 0, Value.int 144 0, Value.str (Str.ofString "/claim/cut.py") 501] }) ::
  (nat_lit 266, fnO (tS 23) (Str.ofString "_law_is_bank_right") (Value.str (Str.ofString "law_pq0112_01") 421) 265) ::
  (nat_lit 272, { cls := Value.type "code", data := Data.fields #[Value.str (Str.ofString "_law_is_named_right") 503, Value.str (Str.ofString "_law_is_named_right") 504, Value.str (Str.ofString "/claim/cut.py") 505, Value.int 151 0, Value.int 1 0, Value.int 0 0, Value.int 0 0, Value.int 3 0, Value.ref 267, Value.bool true, Value.int 181 0, Value.ref 268, Value.none, Value.ref 269, Value.ref 270, Value.ref 271, Value.int 508 0, Value.int 151 0, Value.str (Str.ofString "/claim/cut.py") 509] }) ::
  (nat_lit 273, fnO (tS 24) (Str.ofString "_law_is_named_right") (Value.str (Str.ofString "law_pq0112_01") 421) 272) ::
  (nat_lit 277, { cls := Value.type "code", data := Data.fields #[Value.str (Str.ofString "law") 511, Value.str (Str.ofString "law") 512, Value.str (Str.ofString "/claim/cut.py") 513, Value.int 154 0, Value.int 1 0, Value.int 0 0, Value.int 0 0, Value.int 3 0, Value.ref 274, Value.bool true, Value.int 181 0, Value.ref 275, Value.none, Value.none, Value.none, Value.ref 276, Value.int 514 0, Value.int 154 0, Value.str (Str.ofString "/claim/cut.py") 515] }) ::
  (nat_lit 278, fnO (tS 25) (Str.ofString "law") (Value.str (Str.ofString "law_pq0112_01") 421) 277) :: []

def kfAt : List Addr := [2, 3, 25, 36, 37, 46, 47, 59, 60, 66, 67, 73, 74, 78, 79, 85, 86, 90, 91, 95, 96, 109, 110, 116, 117, 121, 122, 128, 129, 135, 136, 140, 141, 154, 155, 161, 162, 173, 174, 197, 198, 208, 209, 215, 216, 220, 221, 227, 228, 234, 235, 239, 240, 246, 247, 253, 254, 260, 261, 265, 266, 272, 273, 277, 278]
theorem kf_at (P : Params) : kfAt = (kf P).map (·.1) := by kernel_rfl
noncomputable abbrev kH : Hook := kHook kf kfAt kf_at
/-- the view: the law's own def alone; every other name of the text is loose -/
noncomputable def qv : Program := view prg [25]
def looseL : List Str := ["_wall", "__name__", "HeapError", "TermFault", "is_op", "is_variable", "variables", "is_ground", "parts", "renamed", "Bank", "_law_signs", "_law_barred", "_law_ops", "_law_feed", "_law_dip", "_law_is_word", "_law_drawn", "_law_flat", "_law_names", "_law_different", "_law_is_bank_right", "_law_is_named_right"].map Str.ofString
noncomputable abbrev XtL (s : Shared) : Bool := xlAt qv [] s && recOk (RowW.records rw0.row.toRowW) s
/-! the states between some of the top's statements -/
noncomputable def ob0 (P : Params) (o2 o3 o12 : Obj) : List Obj :=
  boot_o_0 P ::
  boot_o_1 P ::
  o2 ::
  o3 ::
  boot_o_4 P ::
  boot_o_5 P ::
  boot_o_6 P ::
  boot_o_7 P ::
  boot_o_8 P ::
  boot_o_9 P ::
  boot_o_10 P ::
  { cls := Value.type "tuple", data := Data.seq #[] } ::
  o12 ::
  { cls := Value.type "code", data := Data.fields #[Value.str (Str.ofString "<module>") 182, Value.str (Str.ofString "<module>") 183, Value.str (Str.ofString "/claim/cut.py") 184, Value.int 1 0, Value.int 0 0, Value.int 0 0, Value.int 0 0, Value.int 0 0, Value.ref 11, Value.bool false, Value.int 181 0, Value.ref 12, Value.none, Value.none, Value.none, Value.none, Value.int 185 0, Value.int 1 0, Value.str (Str.ofString "/claim/cut.py") 186] } ::
  { cls := Value.type "frame", slots := #[some (Value.ref 13), some (Value.ref 3), some (Value.ref 3), none, some (Value.str (Str.ofString "__main__") 164), none, some (Value.ref 0)] } ::
  { cls := Value.type "tuple", data := Data.seq #[] } ::
  { cls := Value.none, data := Data.fields #[] } ::
  { cls := Value.type "tuple", data := Data.seq #[Value.str (Str.ofString "k") 190] } ::
  { cls := Value.type "tuple", data := Data.seq #[] } ::
  (fnT (tS 0) (Str.ofString "_wall")) ::
  { cls := Value.type "code", data := Data.fields #[Value.str (Str.ofString "_wall") 187, Value.str (Str.ofString "_wall") 188, Value.str (Str.ofString "/claim/cut.py") 189, Value.int 1 0, Value.int 1 0, Value.int 0 0, Value.int 0 0, Value.int 3 0, Value.ref 15, Value.bool true, Value.int 181 0, Value.ref 16, Value.none, Value.ref 17, Value.ref 18, Value.ref 19, Value.int 191 0, Value.int 1 0, Value.str (Str.ofString "/claim/cut.py") 192] } ::
  (fnO (tS 0) (Str.ofString "_wall") (Value.str (Str.ofString "__main__") 164) 20) ::
  { cls := Value.type "tuple", data := Data.seq #[Value.type "Exception"] } ::
  { cls := Value.type "builtin_function_or_method", data := Data.fields #[Value.builtin "type.__prepare__", Value.type "type"] } ::
  { cls := Value.type "dict", data := Data.dict #[{ hash := PyData.keyHash P (Str.ofString "__module__"), key := Value.str (Str.ofString "__module__") 203, val := Value.str (Str.ofString "alikeheap.errors") 194 }, { hash := PyData.keyHash P (Str.ofString "__qualname__"), key := Value.str (Str.ofString "__qualname__") 205, val := Value.str (Str.ofString "HeapError") 204 }, { hash := PyData.keyHash P (Str.ofString "__firstlineno__"), key := Value.str (Str.ofString "__firstlineno__") 207, val := Value.int 5 206 }, { hash := PyData.keyHash P (Str.ofString "__init__"), key := Value.str (Str.ofString "__init__") 216, val := Value.ref 37 }, { hash := PyData.keyHash P (Str.ofString "told"), key := Value.str (Str.ofString "told") 223, val := Value.ref 44 }, { hash := PyData.keyHash P (Str.ofString "__static_attributes__"), key := Value.str (Str.ofString "__static_attributes__") 225, val := Value.ref 45 }, { hash := PyData.keyHash P (Str.ofString "__classcell__"), key := Value.str (Str.ofString "__classcell__") 226, val := Value.ref 25 }] 7 } ::
  { cls := Value.type "cell", data := Data.cell (some (Value.ref 47)) } ::
  { cls := Value.type "tuple", data := Data.seq #[] } ::
  { cls := Value.none, data := Data.fields #[Value.int 7 0, Value.int 4 0, Value.ref 36, Value.int 11 0, Value.int 4 0, Value.ref 43] } ::
  { cls := Value.type "code", data := Data.fields #[Value.str (Str.ofString "HeapError") 198, Value.str (Str.ofString "HeapError") 199, Value.str (Str.ofString "/claim/cut.py") 200, Value.int 5 0, Value.int 0 0, Value.int 0 0, Value.int 0 0, Value.int 0 0, Value.ref 26, Value.bool false, Value.int 181 0, Value.ref 27, Value.none, Value.none, Value.none, Value.none, Value.int 201 0, Value.int 5 0, Value.str (Str.ofString "/claim/cut.py") 202] } ::
  { cls := Value.type "frame", slots := #[some (Value.ref 28), some (Value.ref 3), some (Value.ref 24), none, some (Value.str (Str.ofString "alikeheap.errors") 194), none, some (Value.ref 0)] } ::
  { cls := Value.type "tuple", data := Data.seq #[Value.ref 25] } :: []
noncomputable def ob1 (P : Params) : List Obj :=
  { cls := Value.type "tuple", data := Data.seq #[Value.str (Str.ofString "__class__") 211] } ::
  { cls := Value.none, data := Data.fields #[] } ::
  { cls := Value.type "tuple", data := Data.seq #[Value.str (Str.ofString "self") 212, Value.str (Str.ofString "what") 213] } ::
  { cls := Value.type "tuple", data := Data.seq #[] } ::
  (fnT (nS (dB (tS 2)) 0) (Str.ofString "HeapError.__init__")) ::
  { cls := Value.type "code", data := Data.fields #[Value.str (Str.ofString "__init__") 208, Value.str (Str.ofString "HeapError.__init__") 209, Value.str (Str.ofString "/claim/cut.py") 210, Value.int 7 0, Value.int 2 0, Value.int 0 0, Value.int 0 0, Value.int 3 0, Value.ref 31, Value.bool true, Value.int 181 0, Value.ref 32, Value.none, Value.ref 33, Value.ref 34, Value.ref 35, Value.int 214 0, Value.int 7 0, Value.str (Str.ofString "/claim/cut.py") 215] } ::
  { cls := Value.type "function", data := Data.func (ksFn (dN (nS (dB (tS 2)) 0)) (Str.ofString "HeapError.__init__") (dA (nS (dB (tS 2)) 0)) (dB (nS (dB (tS 2)) 0)) (dS (nS (dB (tS 2)) 0)) .none .none .none (Value.str (Str.ofString "alikeheap.errors") 194) none (.ref 36) (.ref 30) 25) } ::
  { cls := Value.type "tuple", data := Data.seq #[] } ::
  { cls := Value.none, data := Data.fields #[] } ::
  { cls := Value.type "tuple", data := Data.seq #[Value.str (Str.ofString "self") 220] } ::
  { cls := Value.type "tuple", data := Data.seq #[] } ::
  (fnT (nS (dB (tS 2)) 1) (Str.ofString "HeapError.told")) ::
  { cls := Value.type "code", data := Data.fields #[Value.str (Str.ofString "told") 217, Value.str (Str.ofString "HeapError.told") 218, Value.str (Str.ofString "/claim/cut.py") 219, Value.int 11 0, Value.int 1 0, Value.int 0 0, Value.int 0 0, Value.int 3 0, Value.ref 38, Value.bool true, Value.int 181 0, Value.ref 39, Value.none, Value.ref 40, Value.ref 41, Value.ref 42, Value.int 221 0, Value.int 11 0, Value.str (Str.ofString "/claim/cut.py") 222] } ::
  (fnO (nS (dB (tS 2)) 1) (Str.ofString "HeapError.told") (Value.str (Str.ofString "alikeheap.errors") 194) 43) ::
  { cls := Value.type "tuple", data := Data.seq #[Value.str (Str.ofString "what") 224] } ::
  { cls := Value.type "dict", data := Data.dict #[{ hash := PyData.keyHash P (Str.ofString "__module__"), key := Value.str (Str.ofString "__module__") 203, val := Value.str (Str.ofString "alikeheap.errors") 194 }, { hash := PyData.keyHash P (Str.ofString "__firstlineno__"), key := Value.str (Str.ofString "__firstlineno__") 207, val := Value.int 5 206 }, { hash := PyData.keyHash P (Str.ofString "__init__"), key := Value.str (Str.ofString "__init__") 216, val := Value.ref 37 }, { hash := PyData.keyHash P (Str.ofString "told"), key := Value.str (Str.ofString "told") 223, val := Value.ref 44 }, { hash := PyData.keyHash P (Str.ofString "__static_attributes__"), key := Value.str (Str.ofString "__static_attributes__") 225, val := Value.ref 45 }, { hash := PyData.keyHash P (Str.ofString "__weakref__"), key := Value.str (Str.ofString "__weakref__") 228, val := Value.ref 48 }, { hash := PyData.keyHash P (Str.ofString "__doc__"), key := Value.str (Str.ofString "__doc__") 229, val := Value.none }] 4 } ::
  { cls := Value.type "type", data := Data.cls { name := Str.ofString "HeapError", bases := [Value.type "Exception"], mro := [Value.ref 47, Value.type "Exception", Value.type "BaseException", Value.type "object"], ns := 46, qualname := Str.ofString "HeapError", subclasses := [Value.ref 60] }, slots := #[some (Value.ref 22), none, some (Value.str (Str.ofString "HeapError") 196), some (Value.str (Str.ofString "HeapError") 204), some (Value.builtin "Exception.__new__"), some (Value.bool true)] } ::
  { cls := Value.type "getset_descriptor", data := Data.fields #[Value.str (Str.ofString "__weakref__") 227, Value.ref 47, Value.builtin "ExceptionGroup.__weakref__", Value.none] } ::
  { cls := Value.type "super", data := Data.fields #[Value.ref 47, Value.ref 47, Value.ref 47] } ::
  { cls := Value.type "builtin_function_or_method", data := Data.fields #[Value.builtin "object.__init_subclass__", Value.ref 47] } ::
  { cls := Value.type "tuple", data := Data.seq #[Value.ref 47] } ::
  { cls := Value.type "builtin_function_or_method", data := Data.fields #[Value.builtin "type.__prepare__", Value.type "type"] } ::
  { cls := Value.type "dict", data := Data.dict #[{ hash := PyData.keyHash P (Str.ofString "__module__"), key := Value.str (Str.ofString "__module__") 241, val := Value.str (Str.ofString "alikeheap.errors") 194 }, { hash := PyData.keyHash P (Str.ofString "__qualname__"), key := Value.str (Str.ofString "__qualname__") 243, val := Value.str (Str.ofString "TermFault") 242 }, { hash := PyData.keyHash P (Str.ofString "__firstlineno__"), key := Value.str (Str.ofString "__firstlineno__") 245, val := Value.int 13 244 }, { hash := PyData.keyHash P (Str.ofString "__static_attributes__"), key := Value.str (Str.ofString "__static_attributes__") 246, val := Value.ref 58 }] 4 } ::
  { cls := Value.type "tuple", data := Data.seq #[] } ::
  { cls := Value.none, data := Data.fields #[] } ::
  { cls := Value.type "code", data := Data.fields #[Value.str (Str.ofString "TermFault") 236, Value.str (Str.ofString "TermFault") 237, Value.str (Str.ofString "/claim/cut.py") 238, Value.int 13 0, Value.int 0 0, Value.int 0 0, Value.int 0 0, Value.int 0 0, Value.ref 54, Value.bool false, Value.int 181 0, Value.ref 55, Value.none, Value.none, Value.none, Value.none, Value.int 239 0, Value.int 13 0, Value.str (Str.ofString "/claim/cut.py") 240] } ::
  { cls := Value.type "frame", slots := #[some (Value.ref 56), some (Value.ref 3), some (Value.ref 53), none, some (Value.str (Str.ofString "alikeheap.errors") 194), none, some (Value.ref 0)] } ::
  { cls := Value.type "tuple", data := Data.seq #[] } ::
  { cls := Value.type "dict", data := Data.dict #[{ hash := PyData.keyHash P (Str.ofString "__module__"), key := Value.str (Str.ofString "__module__") 241, val := Value.str (Str.ofString "alikeheap.errors") 194 }, { hash := PyData.keyHash P (Str.ofString "__firstlineno__"), key := Value.str (Str.ofString "__firstlineno__") 245, val := Value.int 13 244 }, { hash := PyData.keyHash P (Str.ofString "__static_attributes__"), key := Value.str (Str.ofString "__static_attributes__") 246, val := Value.ref 58 }, { hash := PyData.keyHash P (Str.ofString "__doc__"), key := Value.str (Str.ofString "__doc__") 247, val := Value.none }] 2 } ::
  { cls := Value.type "type", data := Data.cls { name := Str.ofString "TermFault", bases := [Value.ref 47], mro := [Value.ref 60, Value.ref 47, Value.type "Exception", Value.type "BaseException", Value.type "object"], ns := 59, qualname := Str.ofString "TermFault" }, slots := #[some (Value.ref 51), none, some (Value.str (Str.ofString "TermFault") 234), some (Value.str (Str.ofString "TermFault") 242), some (Value.builtin "Exception.__new__"), some (Value.bool true)] } ::
  { cls := Value.type "super", data := Data.fields #[Value.ref 60, Value.ref 60, Value.ref 60] } :: []
noncomputable def ob2 (P : Params) : List Obj :=
  { cls := Value.type "builtin_function_or_method", data := Data.fields #[Value.builtin "object.__init_subclass__", Value.ref 60] } ::
  { cls := Value.type "tuple", data := Data.seq #[] } ::
  { cls := Value.none, data := Data.fields #[] } ::
  (fnT (tS 5) (Str.ofString "is_op")) ::
  { cls := Value.type "code", data := Data.fields #[Value.str (Str.ofString "is_op") 252, Value.str (Str.ofString "is_op") 253, Value.str (Str.ofString "/claim/cut.py") 254, Value.int 16 0, Value.int 1 0, Value.int 0 0, Value.int 0 0, Value.int 3 0, Value.ref 63, Value.bool true, Value.int 181 0, Value.ref 64, Value.none, Value.none, Value.none, Value.ref 65, Value.int 255 0, Value.int 16 0, Value.str (Str.ofString "/claim/cut.py") 256] } ::
  (fnO (tS 5) (Str.ofString "is_op") (Value.str (Str.ofString "alikeheap.terms") 250) 66) ::
  { cls := Value.type "tuple", data := Data.seq #[] } ::
  { cls := Value.none, data := Data.fields #[] } ::
  { cls := Value.type "tuple", data := Data.seq #[Value.str (Str.ofString "t") 261] } ::
  { cls := Value.type "tuple", data := Data.seq #[] } ::
  (fnT (tS 6) (Str.ofString "is_variable")) ::
  { cls := Value.type "code", data := Data.fields #[Value.str (Str.ofString "is_variable") 258, Value.str (Str.ofString "is_variable") 259, Value.str (Str.ofString "/claim/cut.py") 260, Value.int 18 0, Value.int 1 0, Value.int 0 0, Value.int 0 0, Value.int 3 0, Value.ref 68, Value.bool true, Value.int 181 0, Value.ref 69, Value.none, Value.ref 70, Value.ref 71, Value.ref 72, Value.int 262 0, Value.int 18 0, Value.str (Str.ofString "/claim/cut.py") 263] } ::
  (fnO (tS 6) (Str.ofString "is_variable") (Value.str (Str.ofString "alikeheap.terms") 250) 73) ::
  { cls := Value.type "tuple", data := Data.seq #[] } ::
  { cls := Value.none, data := Data.fields #[] } ::
  (fnT (tS 7) (Str.ofString "variables")) ::
  { cls := Value.type "code", data := Data.fields #[Value.str (Str.ofString "variables") 265, Value.str (Str.ofString "variables") 266, Value.str (Str.ofString "/claim/cut.py") 267, Value.int 20 0, Value.int 1 0, Value.int 0 0, Value.int 0 0, Value.int 3 0, Value.ref 75, Value.bool true, Value.int 181 0, Value.ref 76, Value.none, Value.none, Value.none, Value.ref 77, Value.int 268 0, Value.int 20 0, Value.str (Str.ofString "/claim/cut.py") 269] } ::
  (fnO (tS 7) (Str.ofString "variables") (Value.str (Str.ofString "alikeheap.terms") 250) 78) ::
  { cls := Value.type "tuple", data := Data.seq #[] } ::
  { cls := Value.none, data := Data.fields #[] } ::
  { cls := Value.type "tuple", data := Data.seq #[Value.str (Str.ofString "t") 274] } ::
  { cls := Value.type "tuple", data := Data.seq #[] } ::
  (fnT (tS 8) (Str.ofString "is_ground")) ::
  { cls := Value.type "code", data := Data.fields #[Value.str (Str.ofString "is_ground") 271, Value.str (Str.ofString "is_ground") 272, Value.str (Str.ofString "/claim/cut.py") 273, Value.int 22 0, Value.int 1 0, Value.int 0 0, Value.int 0 0, Value.int 3 0, Value.ref 80, Value.bool true, Value.int 181 0, Value.ref 81, Value.none, Value.ref 82, Value.ref 83, Value.ref 84, Value.int 275 0, Value.int 22 0, Value.str (Str.ofString "/claim/cut.py") 276] } ::
  (fnO (tS 8) (Str.ofString "is_ground") (Value.str (Str.ofString "alikeheap.terms") 250) 85) ::
  { cls := Value.type "tuple", data := Data.seq #[] } ::
  { cls := Value.none, data := Data.fields #[] } ::
  (fnT (tS 9) (Str.ofString "parts")) ::
  { cls := Value.type "code", data := Data.fields #[Value.str (Str.ofString "parts") 278, Value.str (Str.ofString "parts") 279, Value.str (Str.ofString "/claim/cut.py") 280, Value.int 24 0, Value.int 1 0, Value.int 0 0, Value.int 0 0, Value.int 3 0, Value.ref 87, Value.bool true, Value.int 181 0, Value.ref 88, Value.none, Value.none, Value.none, Value.ref 89, Value.int 281 0, Value.int 24 0, Value.str (Str.ofString "/claim/cut.py") 282] } ::
  (fnO (tS 9) (Str.ofString "parts") (Value.str (Str.ofString "alikeheap.terms") 250) 90) ::
  { cls := Value.type "tuple", data := Data.seq #[] } :: []
noncomputable def ob3 (P : Params) : List Obj :=
  { cls := Value.none, data := Data.fields #[] } ::
  (fnT (tS 10) (Str.ofString "renamed")) ::
  { cls := Value.type "code", data := Data.fields #[Value.str (Str.ofString "renamed") 284, Value.str (Str.ofString "renamed") 285, Value.str (Str.ofString "/claim/cut.py") 286, Value.int 29 0, Value.int 2 0, Value.int 0 0, Value.int 0 0, Value.int 3 0, Value.ref 92, Value.bool true, Value.int 181 0, Value.ref 93, Value.none, Value.none, Value.none, Value.ref 94, Value.int 287 0, Value.int 29 0, Value.str (Str.ofString "/claim/cut.py") 288] } ::
  (fnO (tS 10) (Str.ofString "renamed") (Value.str (Str.ofString "alikeheap.terms") 250) 95) ::
  { cls := Value.type "tuple", data := Data.seq #[] } ::
  { cls := Value.type "builtin_function_or_method", data := Data.fields #[Value.builtin "type.__prepare__", Value.type "type"] } ::
  { cls := Value.type "dict", data := Data.dict #[{ hash := PyData.keyHash P (Str.ofString "__module__"), key := Value.str (Str.ofString "__module__") 297, val := Value.str (Str.ofString "alikeheap.terms") 250 }, { hash := PyData.keyHash P (Str.ofString "__qualname__"), key := Value.str (Str.ofString "__qualname__") 299, val := Value.str (Str.ofString "Bank") 298 }, { hash := PyData.keyHash P (Str.ofString "__firstlineno__"), key := Value.str (Str.ofString "__firstlineno__") 301, val := Value.int 31 300 }, { hash := PyData.keyHash P (Str.ofString "__init__"), key := Value.str (Str.ofString "__init__") 308, val := Value.ref 110 }, { hash := PyData.keyHash P (Str.ofString "size"), key := Value.str (Str.ofString "size") 315, val := Value.ref 117 }, { hash := PyData.keyHash P (Str.ofString "take"), key := Value.str (Str.ofString "take") 321, val := Value.ref 122 }, { hash := PyData.keyHash P (Str.ofString "require"), key := Value.str (Str.ofString "require") 329, val := Value.ref 129 }, { hash := PyData.keyHash P (Str.ofString "put"), key := Value.str (Str.ofString "put") 339, val := Value.ref 136 }, { hash := PyData.keyHash P (Str.ofString "put_all"), key := Value.str (Str.ofString "put_all") 345, val := Value.ref 141 }, { hash := PyData.keyHash P (Str.ofString "cut"), key := Value.str (Str.ofString "cut") 353, val := Value.ref 148 }, { hash := PyData.keyHash P (Str.ofString "op"), key := Value.str (Str.ofString "op") 361, val := Value.ref 155 }, { hash := PyData.keyHash P (Str.ofString "kids"), key := Value.str (Str.ofString "kids") 369, val := Value.ref 162 }, { hash := PyData.keyHash P (Str.ofString "node"), key := Value.str (Str.ofString "node") 377, val := Value.ref 169 }, { hash := PyData.keyHash P (Str.ofString "term"), key := Value.str (Str.ofString "term") 383, val := Value.ref 174 }, { hash := PyData.keyHash P (Str.ofString "weight"), key := Value.str (Str.ofString "weight") 391, val := Value.ref 181 }, { hash := PyData.keyHash P (Str.ofString "depth"), key := Value.str (Str.ofString "depth") 399, val := Value.ref 188 }, { hash := PyData.keyHash P (Str.ofString "seek"), key := Value.str (Str.ofString "seek") 408, val := Value.ref 195 }, { hash := PyData.keyHash P (Str.ofString "__static_attributes__"), key := Value.str (Str.ofString "__static_attributes__") 413, val := Value.ref 196 }] 18 } ::
  { cls := Value.type "tuple", data := Data.seq #[] } ::
  { cls := Value.none, data := Data.fields #[Value.int 33 0, Value.int 4 0, Value.ref 109, Value.int 39 0, Value.int 4 0, Value.ref 116, Value.int 42 0, Value.int 4 0, Value.ref 121, Value.int 56 0, Value.int 4 0, Value.ref 128, Value.int 60 0, Value.int 4 0, Value.ref 135, Value.int 65 0, Value.int 4 0, Value.ref 140, Value.int 68 0, Value.int 4 0, Value.ref 147, Value.int 71 0, Value.int 4 0, Value.ref 154, Value.int 74 0, Value.int 4 0, Value.ref 161, Value.int 77 0, Value.int 4 0, Value.ref 168, Value.int 80 0, Value.int 4 0, Value.ref 173, Value.int 92 0, Value.int 4 0, Value.ref 180, Value.int 95 0, Value.int 4 0, Value.ref 187, Value.int 98 0, Value.int 4 0, Value.ref 194] } ::
  { cls := Value.type "code", data := Data.fields #[Value.str (Str.ofString "Bank") 292, Value.str (Str.ofString "Bank") 293, Value.str (Str.ofString "/claim/cut.py") 294, Value.int 31 0, Value.int 0 0, Value.int 0 0, Value.int 0 0, Value.int 0 0, Value.ref 100, Value.bool false, Value.int 181 0, Value.ref 101, Value.none, Value.none, Value.none, Value.none, Value.int 295 0, Value.int 31 0, Value.str (Str.ofString "/claim/cut.py") 296] } ::
  { cls := Value.type "frame", slots := #[some (Value.ref 102), some (Value.ref 3), some (Value.ref 99), none, some (Value.str (Str.ofString "alikeheap.terms") 250), none, some (Value.ref 0)] } ::
  { cls := Value.type "tuple", data := Data.seq #[] } ::
  { cls := Value.none, data := Data.fields #[] } ::
  { cls := Value.type "tuple", data := Data.seq #[Value.str (Str.ofString "self") 305] } ::
  { cls := Value.type "tuple", data := Data.seq #[] } ::
  (fnT (nS (dB (tS 11)) 0) (Str.ofString "Bank.__init__")) ::
  { cls := Value.type "code", data := Data.fields #[Value.str (Str.ofString "__init__") 302, Value.str (Str.ofString "Bank.__init__") 303, Value.str (Str.ofString "/claim/cut.py") 304, Value.int 33 0, Value.int 1 0, Value.int 0 0, Value.int 0 0, Value.int 3 0, Value.ref 104, Value.bool true, Value.int 181 0, Value.ref 105, Value.none, Value.ref 106, Value.ref 107, Value.ref 108, Value.int 306 0, Value.int 33 0, Value.str (Str.ofString "/claim/cut.py") 307] } ::
  (fnO (nS (dB (tS 11)) 0) (Str.ofString "Bank.__init__") (Value.str (Str.ofString "alikeheap.terms") 250) 109) ::
  { cls := Value.type "tuple", data := Data.seq #[] } ::
  { cls := Value.none, data := Data.fields #[] } ::
  { cls := Value.type "tuple", data := Data.seq #[Value.str (Str.ofString "self") 312] } ::
  { cls := Value.type "tuple", data := Data.seq #[] } ::
  (fnT (nS (dB (tS 11)) 1) (Str.ofString "Bank.size")) ::
  { cls := Value.type "code", data := Data.fields #[Value.str (Str.ofString "size") 309, Value.str (Str.ofString "Bank.size") 310, Value.str (Str.ofString "/claim/cut.py") 311, Value.int 39 0, Value.int 1 0, Value.int 0 0, Value.int 0 0, Value.int 3 0, Value.ref 111, Value.bool true, Value.int 181 0, Value.ref 112, Value.none, Value.ref 113, Value.ref 114, Value.ref 115, Value.int 313 0, Value.int 39 0, Value.str (Str.ofString "/claim/cut.py") 314] } ::
  (fnO (nS (dB (tS 11)) 1) (Str.ofString "Bank.size") (Value.str (Str.ofString "alikeheap.terms") 250) 116) ::
  { cls := Value.type "tuple", data := Data.seq #[] } ::
  { cls := Value.none, data := Data.fields #[] } ::
  (fnT (nS (dB (tS 11)) 2) (Str.ofString "Bank.take")) ::
  { cls := Value.type "code", data := Data.fields #[Value.str (Str.ofString "take") 316, Value.str (Str.ofString "Bank.take") 317, Value.str (Str.ofString "/claim/cut.py") 318, Value.int 42 0, Value.int 3 0, Value.int 0 0, Value.int 0 0, Value.int 3 0, Value.ref 118, Value.bool true, Value.int 181 0, Value.ref 119, Value.none, Value.none, Value.none, Value.ref 120, Value.int 319 0, Value.int 42 0, Value.str (Str.ofString "/claim/cut.py") 320] } ::
  (fnO (nS (dB (tS 11)) 2) (Str.ofString "Bank.take") (Value.str (Str.ofString "alikeheap.terms") 250) 121) ::
  { cls := Value.type "tuple", data := Data.seq #[] } :: []
noncomputable def ob4 (P : Params) : List Obj :=
  { cls := Value.none, data := Data.fields #[] } ::
  { cls := Value.type "tuple", data := Data.seq #[Value.str (Str.ofString "self") 325, Value.str (Str.ofString "op") 326] } ::
  { cls := Value.type "tuple", data := Data.seq #[] } ::
  (fnT (nS (dB (tS 11)) 3) (Str.ofString "Bank.require")) ::
  { cls := Value.type "code", data := Data.fields #[Value.str (Str.ofString "require") 322, Value.str (Str.ofString "Bank.require") 323, Value.str (Str.ofString "/claim/cut.py") 324, Value.int 56 0, Value.int 2 0, Value.int 0 0, Value.int 0 0, Value.int 3 0, Value.ref 123, Value.bool true, Value.int 181 0, Value.ref 124, Value.none, Value.ref 125, Value.ref 126, Value.ref 127, Value.int 327 0, Value.int 56 0, Value.str (Str.ofString "/claim/cut.py") 328] } ::
  (fnO (nS (dB (tS 11)) 3) (Str.ofString "Bank.require") (Value.str (Str.ofString "alikeheap.terms") 250) 128) ::
  { cls := Value.type "tuple", data := Data.seq #[] } ::
  { cls := Value.none, data := Data.fields #[] } ::
  { cls := Value.type "tuple", data := Data.seq #[Value.str (Str.ofString "self") 333, Value.str (Str.ofString "t") 334, Value.str (Str.ofString "path") 335, Value.str (Str.ofString "part") 336] } ::
  { cls := Value.type "tuple", data := Data.seq #[] } ::
  (fnT (nS (dB (tS 11)) 4) (Str.ofString "Bank.put")) ::
  { cls := Value.type "code", data := Data.fields #[Value.str (Str.ofString "put") 330, Value.str (Str.ofString "Bank.put") 331, Value.str (Str.ofString "/claim/cut.py") 332, Value.int 60 0, Value.int 2 0, Value.int 0 0, Value.int 0 0, Value.int 3 0, Value.ref 130, Value.bool true, Value.int 181 0, Value.ref 131, Value.none, Value.ref 132, Value.ref 133, Value.ref 134, Value.int 337 0, Value.int 60 0, Value.str (Str.ofString "/claim/cut.py") 338] } ::
  (fnO (nS (dB (tS 11)) 4) (Str.ofString "Bank.put") (Value.str (Str.ofString "alikeheap.terms") 250) 135) ::
  { cls := Value.type "tuple", data := Data.seq #[] } ::
  { cls := Value.none, data := Data.fields #[] } ::
  (fnT (nS (dB (tS 11)) 5) (Str.ofString "Bank.put_all")) ::
  { cls := Value.type "code", data := Data.fields #[Value.str (Str.ofString "put_all") 340, Value.str (Str.ofString "Bank.put_all") 341, Value.str (Str.ofString "/claim/cut.py") 342, Value.int 65 0, Value.int 2 0, Value.int 0 0, Value.int 0 0, Value.int 3 0, Value.ref 137, Value.bool true, Value.int 181 0, Value.ref 138, Value.none, Value.none, Value.none, Value.ref 139, Value.int 343 0, Value.int 65 0, Value.str (Str.ofString "/claim/cut.py") 344] } ::
  (fnO (nS (dB (tS 11)) 5) (Str.ofString "Bank.put_all") (Value.str (Str.ofString "alikeheap.terms") 250) 140) ::
  { cls := Value.type "tuple", data := Data.seq #[] } ::
  { cls := Value.none, data := Data.fields #[] } ::
  { cls := Value.type "tuple", data := Data.seq #[Value.str (Str.ofString "self") 349, Value.str (Str.ofString "many") 350] } ::
  { cls := Value.type "tuple", data := Data.seq #[] } ::
  (fnT (nS (dB (tS 11)) 6) (Str.ofString "Bank.cut")) ::
  { cls := Value.type "code", data := Data.fields #[Value.str (Str.ofString "cut") 346, Value.str (Str.ofString "Bank.cut") 347, Value.str (Str.ofString "/claim/cut.py") 348, Value.int 68 0, Value.int 2 0, Value.int 0 0, Value.int 0 0, Value.int 3 0, Value.ref 142, Value.bool true, Value.int 181 0, Value.ref 143, Value.none, Value.ref 144, Value.ref 145, Value.ref 146, Value.int 351 0, Value.int 68 0, Value.str (Str.ofString "/claim/cut.py") 352] } ::
  (fnO (nS (dB (tS 11)) 6) (Str.ofString "Bank.cut") (Value.str (Str.ofString "alikeheap.terms") 250) 147) ::
  { cls := Value.type "tuple", data := Data.seq #[] } ::
  { cls := Value.none, data := Data.fields #[] } ::
  { cls := Value.type "tuple", data := Data.seq #[Value.str (Str.ofString "self") 357, Value.str (Str.ofString "n") 358] } ::
  { cls := Value.type "tuple", data := Data.seq #[] } ::
  (fnT (nS (dB (tS 11)) 7) (Str.ofString "Bank.op")) ::
  { cls := Value.type "code", data := Data.fields #[Value.str (Str.ofString "op") 354, Value.str (Str.ofString "Bank.op") 355, Value.str (Str.ofString "/claim/cut.py") 356, Value.int 71 0, Value.int 2 0, Value.int 0 0, Value.int 0 0, Value.int 3 0, Value.ref 149, Value.bool true, Value.int 181 0, Value.ref 150, Value.none, Value.ref 151, Value.ref 152, Value.ref 153, Value.int 359 0, Value.int 71 0, Value.str (Str.ofString "/claim/cut.py") 360] } :: []
noncomputable def ob5 (P : Params) : List Obj :=
  (fnO (nS (dB (tS 11)) 7) (Str.ofString "Bank.op") (Value.str (Str.ofString "alikeheap.terms") 250) 154) ::
  { cls := Value.type "tuple", data := Data.seq #[] } ::
  { cls := Value.none, data := Data.fields #[] } ::
  { cls := Value.type "tuple", data := Data.seq #[Value.str (Str.ofString "self") 365, Value.str (Str.ofString "n") 366] } ::
  { cls := Value.type "tuple", data := Data.seq #[] } ::
  (fnT (nS (dB (tS 11)) 8) (Str.ofString "Bank.kids")) ::
  { cls := Value.type "code", data := Data.fields #[Value.str (Str.ofString "kids") 362, Value.str (Str.ofString "Bank.kids") 363, Value.str (Str.ofString "/claim/cut.py") 364, Value.int 74 0, Value.int 2 0, Value.int 0 0, Value.int 0 0, Value.int 3 0, Value.ref 156, Value.bool true, Value.int 181 0, Value.ref 157, Value.none, Value.ref 158, Value.ref 159, Value.ref 160, Value.int 367 0, Value.int 74 0, Value.str (Str.ofString "/claim/cut.py") 368] } ::
  (fnO (nS (dB (tS 11)) 8) (Str.ofString "Bank.kids") (Value.str (Str.ofString "alikeheap.terms") 250) 161) ::
  { cls := Value.type "tuple", data := Data.seq #[] } ::
  { cls := Value.none, data := Data.fields #[] } ::
  { cls := Value.type "tuple", data := Data.seq #[Value.str (Str.ofString "self") 373, Value.str (Str.ofString "n") 374] } ::
  { cls := Value.type "tuple", data := Data.seq #[] } ::
  (fnT (nS (dB (tS 11)) 9) (Str.ofString "Bank.node")) ::
  { cls := Value.type "code", data := Data.fields #[Value.str (Str.ofString "node") 370, Value.str (Str.ofString "Bank.node") 371, Value.str (Str.ofString "/claim/cut.py") 372, Value.int 77 0, Value.int 2 0, Value.int 0 0, Value.int 0 0, Value.int 3 0, Value.ref 163, Value.bool true, Value.int 181 0, Value.ref 164, Value.none, Value.ref 165, Value.ref 166, Value.ref 167, Value.int 375 0, Value.int 77 0, Value.str (Str.ofString "/claim/cut.py") 376] } ::
  (fnO (nS (dB (tS 11)) 9) (Str.ofString "Bank.node") (Value.str (Str.ofString "alikeheap.terms") 250) 168) ::
  { cls := Value.type "tuple", data := Data.seq #[] } ::
  { cls := Value.none, data := Data.fields #[] } ::
  (fnT (nS (dB (tS 11)) 10) (Str.ofString "Bank.term")) ::
  { cls := Value.type "code", data := Data.fields #[Value.str (Str.ofString "term") 378, Value.str (Str.ofString "Bank.term") 379, Value.str (Str.ofString "/claim/cut.py") 380, Value.int 80 0, Value.int 2 0, Value.int 0 0, Value.int 0 0, Value.int 3 0, Value.ref 170, Value.bool true, Value.int 181 0, Value.ref 171, Value.none, Value.none, Value.none, Value.ref 172, Value.int 381 0, Value.int 80 0, Value.str (Str.ofString "/claim/cut.py") 382] } ::
  (fnO (nS (dB (tS 11)) 10) (Str.ofString "Bank.term") (Value.str (Str.ofString "alikeheap.terms") 250) 173) ::
  { cls := Value.type "tuple", data := Data.seq #[] } ::
  { cls := Value.none, data := Data.fields #[] } ::
  { cls := Value.type "tuple", data := Data.seq #[Value.str (Str.ofString "self") 387, Value.str (Str.ofString "n") 388] } ::
  { cls := Value.type "tuple", data := Data.seq #[] } ::
  (fnT (nS (dB (tS 11)) 11) (Str.ofString "Bank.weight")) ::
  { cls := Value.type "code", data := Data.fields #[Value.str (Str.ofString "weight") 384, Value.str (Str.ofString "Bank.weight") 385, Value.str (Str.ofString "/claim/cut.py") 386, Value.int 92 0, Value.int 2 0, Value.int 0 0, Value.int 0 0, Value.int 3 0, Value.ref 175, Value.bool true, Value.int 181 0, Value.ref 176, Value.none, Value.ref 177, Value.ref 178, Value.ref 179, Value.int 389 0, Value.int 92 0, Value.str (Str.ofString "/claim/cut.py") 390] } ::
  (fnO (nS (dB (tS 11)) 11) (Str.ofString "Bank.weight") (Value.str (Str.ofString "alikeheap.terms") 250) 180) ::
  { cls := Value.type "tuple", data := Data.seq #[] } ::
  { cls := Value.none, data := Data.fields #[] } ::
  { cls := Value.type "tuple", data := Data.seq #[Value.str (Str.ofString "self") 395, Value.str (Str.ofString "n") 396] } ::
  { cls := Value.type "tuple", data := Data.seq #[] } :: []
noncomputable def ob6 (P : Params) : List Obj :=
  (fnT (nS (dB (tS 11)) 12) (Str.ofString "Bank.depth")) ::
  { cls := Value.type "code", data := Data.fields #[Value.str (Str.ofString "depth") 392, Value.str (Str.ofString "Bank.depth") 393, Value.str (Str.ofString "/claim/cut.py") 394, Value.int 95 0, Value.int 2 0, Value.int 0 0, Value.int 0 0, Value.int 3 0, Value.ref 182, Value.bool true, Value.int 181 0, Value.ref 183, Value.none, Value.ref 184, Value.ref 185, Value.ref 186, Value.int 397 0, Value.int 95 0, Value.str (Str.ofString "/claim/cut.py") 398] } ::
  (fnO (nS (dB (tS 11)) 12) (Str.ofString "Bank.depth") (Value.str (Str.ofString "alikeheap.terms") 250) 187) ::
  { cls := Value.type "tuple", data := Data.seq #[] } ::
  { cls := Value.none, data := Data.fields #[] } ::
  { cls := Value.type "tuple", data := Data.seq #[Value.str (Str.ofString "self") 403, Value.str (Str.ofString "op") 404, Value.str (Str.ofString "kids") 405] } ::
  { cls := Value.type "tuple", data := Data.seq #[] } ::
  (fnT (nS (dB (tS 11)) 13) (Str.ofString "Bank.seek")) ::
  { cls := Value.type "code", data := Data.fields #[Value.str (Str.ofString "seek") 400, Value.str (Str.ofString "Bank.seek") 401, Value.str (Str.ofString "/claim/cut.py") 402, Value.int 98 0, Value.int 3 0, Value.int 0 0, Value.int 0 0, Value.int 3 0, Value.ref 189, Value.bool true, Value.int 181 0, Value.ref 190, Value.none, Value.ref 191, Value.ref 192, Value.ref 193, Value.int 406 0, Value.int 98 0, Value.str (Str.ofString "/claim/cut.py") 407] } ::
  (fnO (nS (dB (tS 11)) 13) (Str.ofString "Bank.seek") (Value.str (Str.ofString "alikeheap.terms") 250) 194) ::
  { cls := Value.type "tuple", data := Data.seq #[Value.str (Str.ofString "depths") 409, Value.str (Str.ofString "nodes") 410, Value.str (Str.ofString "numbers") 411, Value.str (Str.ofString "weights") 412] } ::
  { cls := Value.type "dict", data := Data.dict #[{ hash := PyData.keyHash P (Str.ofString "__module__"), key := Value.str (Str.ofString "__module__") 297, val := Value.str (Str.ofString "alikeheap.terms") 250 }, { hash := PyData.keyHash P (Str.ofString "__firstlineno__"), key := Value.str (Str.ofString "__firstlineno__") 301, val := Value.int 31 300 }, { hash := PyData.keyHash P (Str.ofString "__init__"), key := Value.str (Str.ofString "__init__") 308, val := Value.ref 110 }, { hash := PyData.keyHash P (Str.ofString "size"), key := Value.str (Str.ofString "size") 315, val := Value.ref 117 }, { hash := PyData.keyHash P (Str.ofString "take"), key := Value.str (Str.ofString "take") 321, val := Value.ref 122 }, { hash := PyData.keyHash P (Str.ofString "require"), key := Value.str (Str.ofString "require") 329, val := Value.ref 129 }, { hash := PyData.keyHash P (Str.ofString "put"), key := Value.str (Str.ofString "put") 339, val := Value.ref 136 }, { hash := PyData.keyHash P (Str.ofString "put_all"), key := Value.str (Str.ofString "put_all") 345, val := Value.ref 141 }, { hash := PyData.keyHash P (Str.ofString "cut"), key := Value.str (Str.ofString "cut") 353, val := Value.ref 148 }, { hash := PyData.keyHash P (Str.ofString "op"), key := Value.str (Str.ofString "op") 361, val := Value.ref 155 }, { hash := PyData.keyHash P (Str.ofString "kids"), key := Value.str (Str.ofString "kids") 369, val := Value.ref 162 }, { hash := PyData.keyHash P (Str.ofString "node"), key := Value.str (Str.ofString "node") 377, val := Value.ref 169 }, { hash := PyData.keyHash P (Str.ofString "term"), key := Value.str (Str.ofString "term") 383, val := Value.ref 174 }, { hash := PyData.keyHash P (Str.ofString "weight"), key := Value.str (Str.ofString "weight") 391, val := Value.ref 181 }, { hash := PyData.keyHash P (Str.ofString "depth"), key := Value.str (Str.ofString "depth") 399, val := Value.ref 188 }, { hash := PyData.keyHash P (Str.ofString "seek"), key := Value.str (Str.ofString "seek") 408, val := Value.ref 195 }, { hash := PyData.keyHash P (Str.ofString "__static_attributes__"), key := Value.str (Str.ofString "__static_attributes__") 413, val := Value.ref 196 }, { hash := PyData.keyHash P (Str.ofString "__dict__"), key := Value.str (Str.ofString "__dict__") 415, val := Value.ref 199 }, { hash := PyData.keyHash P (Str.ofString "__weakref__"), key := Value.str (Str.ofString "__weakref__") 417, val := Value.ref 200 }, { hash := PyData.keyHash P (Str.ofString "__doc__"), key := Value.str (Str.ofString "__doc__") 418, val := Value.none }] 4 } ::
  { cls := Value.type "type", data := Data.cls { name := Str.ofString "Bank", bases := [Value.type "object"], mro := [Value.ref 198, Value.type "object"], ns := 197, qualname := Str.ofString "Bank" }, slots := #[none, none, some (Value.str (Str.ofString "Bank") 290), some (Value.str (Str.ofString "Bank") 298), some (Value.builtin "object.__new__"), some (Value.bool true)] } ::
  { cls := Value.type "getset_descriptor", data := Data.fields #[Value.str (Str.ofString "__dict__") 414, Value.ref 198, Value.builtin "function.__dict__", Value.builtin "function.__dict__#set"] } ::
  { cls := Value.type "getset_descriptor", data := Data.fields #[Value.str (Str.ofString "__weakref__") 416, Value.ref 198, Value.builtin "ExceptionGroup.__weakref__", Value.none] } ::
  { cls := Value.type "super", data := Data.fields #[Value.ref 198, Value.ref 198, Value.ref 198] } ::
  { cls := Value.type "builtin_function_or_method", data := Data.fields #[Value.builtin "object.__init_subclass__", Value.ref 198] } ::
  { cls := Value.type "tuple", data := Data.seq #[] } ::
  { cls := Value.none, data := Data.fields #[] } ::
  { cls := Value.type "tuple", data := Data.seq #[] } ::
  { cls := Value.type "tuple", data := Data.seq #[] } ::
  (fnT (tS 14) (Str.ofString "_law_barred")) ::
  { cls := Value.type "code", data := Data.fields #[Value.str (Str.ofString "_law_barred") 425, Value.str (Str.ofString "_law_barred") 426, Value.str (Str.ofString "/claim/cut.py") 427, Value.int 102 0, Value.int 0 0, Value.int 0 0, Value.int 0 0, Value.int 3 0, Value.ref 203, Value.bool true, Value.int 181 0, Value.ref 204, Value.none, Value.ref 205, Value.ref 206, Value.ref 207, Value.int 428 0, Value.int 102 0, Value.str (Str.ofString "/claim/cut.py") 429] } ::
  (fnO (tS 14) (Str.ofString "_law_barred") (Value.str (Str.ofString "law_pq0112_01") 421) 208) ::
  { cls := Value.type "tuple", data := Data.seq #[] } ::
  { cls := Value.none, data := Data.fields #[] } ::
  { cls := Value.type "tuple", data := Data.seq #[] } ::
  { cls := Value.type "tuple", data := Data.seq #[] } ::
  (fnT (tS 15) (Str.ofString "_law_ops")) ::
  { cls := Value.type "code", data := Data.fields #[Value.str (Str.ofString "_law_ops") 431, Value.str (Str.ofString "_law_ops") 432, Value.str (Str.ofString "/claim/cut.py") 433, Value.int 104 0, Value.int 0 0, Value.int 0 0, Value.int 0 0, Value.int 3 0, Value.ref 210, Value.bool true, Value.int 181 0, Value.ref 211, Value.none, Value.ref 212, Value.ref 213, Value.ref 214, Value.int 434 0, Value.int 104 0, Value.str (Str.ofString "/claim/cut.py") 435] } ::
  (fnO (tS 15) (Str.ofString "_law_ops") (Value.str (Str.ofString "law_pq0112_01") 421) 215) :: []
noncomputable def ob7 (P : Params) : List Obj :=
  { cls := Value.type "tuple", data := Data.seq #[] } ::
  { cls := Value.none, data := Data.fields #[] } ::
  (fnT (tS 16) (Str.ofString "_law_feed")) ::
  { cls := Value.type "code", data := Data.fields #[Value.str (Str.ofString "_law_feed") 437, Value.str (Str.ofString "_law_feed") 438, Value.str (Str.ofString "/claim/cut.py") 439, Value.int 106 0, Value.int 1 0, Value.int 0 0, Value.int 0 0, Value.int 3 0, Value.ref 217, Value.bool true, Value.int 181 0, Value.ref 218, Value.none, Value.none, Value.none, Value.ref 219, Value.int 440 0, Value.int 106 0, Value.str (Str.ofString "/claim/cut.py") 441] } ::
  (fnO (tS 16) (Str.ofString "_law_feed") (Value.str (Str.ofString "law_pq0112_01") 421) 220) ::
  { cls := Value.type "tuple", data := Data.seq #[] } ::
  { cls := Value.none, data := Data.fields #[] } ::
  { cls := Value.type "tuple", data := Data.seq #[Value.str (Str.ofString "feed") 446, Value.str (Str.ofString "top") 447, Value.str (Str.ofString "cells") 448, Value.str (Str.ofString "place") 449] } ::
  { cls := Value.type "tuple", data := Data.seq #[] } ::
  (fnT (tS 17) (Str.ofString "_law_dip")) ::
  { cls := Value.type "code", data := Data.fields #[Value.str (Str.ofString "_law_dip") 443, Value.str (Str.ofString "_law_dip") 444, Value.str (Str.ofString "/claim/cut.py") 445, Value.int 108 0, Value.int 2 0, Value.int 0 0, Value.int 0 0, Value.int 3 0, Value.ref 222, Value.bool true, Value.int 181 0, Value.ref 223, Value.none, Value.ref 224, Value.ref 225, Value.ref 226, Value.int 450 0, Value.int 108 0, Value.str (Str.ofString "/claim/cut.py") 451] } ::
  (fnO (tS 17) (Str.ofString "_law_dip") (Value.str (Str.ofString "law_pq0112_01") 421) 227) ::
  { cls := Value.type "tuple", data := Data.seq #[] } ::
  { cls := Value.none, data := Data.fields #[] } ::
  { cls := Value.type "tuple", data := Data.seq #[Value.str (Str.ofString "text") 456, Value.str (Str.ofString "sign") 457] } ::
  { cls := Value.type "tuple", data := Data.seq #[] } ::
  (fnT (tS 18) (Str.ofString "_law_is_word")) ::
  { cls := Value.type "code", data := Data.fields #[Value.str (Str.ofString "_law_is_word") 453, Value.str (Str.ofString "_law_is_word") 454, Value.str (Str.ofString "/claim/cut.py") 455, Value.int 114 0, Value.int 1 0, Value.int 0 0, Value.int 0 0, Value.int 3 0, Value.ref 229, Value.bool true, Value.int 181 0, Value.ref 230, Value.none, Value.ref 231, Value.ref 232, Value.ref 233, Value.int 458 0, Value.int 114 0, Value.str (Str.ofString "/claim/cut.py") 459] } ::
  (fnO (tS 18) (Str.ofString "_law_is_word") (Value.str (Str.ofString "law_pq0112_01") 421) 234) ::
  { cls := Value.type "tuple", data := Data.seq #[] } ::
  { cls := Value.none, data := Data.fields #[] } ::
  (fnT (tS 19) (Str.ofString "_law_drawn")) ::
  { cls := Value.type "code", data := Data.fields #[Value.str (Str.ofString "_law_drawn") 461, Value.str (Str.ofString "_law_drawn") 462, Value.str (Str.ofString "/claim/cut.py") 463, Value.int 119 0, Value.int 2 0, Value.int 0 0, Value.int 0 0, Value.int 3 0, Value.ref 236, Value.bool true, Value.int 181 0, Value.ref 237, Value.none, Value.none, Value.none, Value.ref 238, Value.int 464 0, Value.int 119 0, Value.str (Str.ofString "/claim/cut.py") 465] } ::
  (fnO (tS 19) (Str.ofString "_law_drawn") (Value.str (Str.ofString "law_pq0112_01") 421) 239) ::
  { cls := Value.type "tuple", data := Data.seq #[] } ::
  { cls := Value.none, data := Data.fields #[] } ::
  { cls := Value.type "tuple", data := Data.seq #[Value.str (Str.ofString "t") 470, Value.str (Str.ofString "rows") 471, Value.str (Str.ofString "waiting") 472, Value.str (Str.ofString "here") 473] } ::
  { cls := Value.type "tuple", data := Data.seq #[] } ::
  (fnT (tS 20) (Str.ofString "_law_flat")) ::
  { cls := Value.type "code", data := Data.fields #[Value.str (Str.ofString "_law_flat") 467, Value.str (Str.ofString "_law_flat") 468, Value.str (Str.ofString "/claim/cut.py") 469, Value.int 123 0, Value.int 1 0, Value.int 0 0, Value.int 0 0, Value.int 3 0, Value.ref 241, Value.bool true, Value.int 181 0, Value.ref 242, Value.none, Value.ref 243, Value.ref 244, Value.ref 245, Value.int 474 0, Value.int 123 0, Value.str (Str.ofString "/claim/cut.py") 475] } ::
  (fnO (tS 20) (Str.ofString "_law_flat") (Value.str (Str.ofString "law_pq0112_01") 421) 246) :: []
noncomputable def ob8 (P : Params) : List Obj :=
  { cls := Value.type "tuple", data := Data.seq #[] } ::
  { cls := Value.none, data := Data.fields #[] } ::
  { cls := Value.type "tuple", data := Data.seq #[Value.str (Str.ofString "rows") 480, Value.str (Str.ofString "found") 481, Value.str (Str.ofString "op") 482, Value.str (Str.ofString "many") 483] } ::
  { cls := Value.type "tuple", data := Data.seq #[] } ::
  (fnT (tS 21) (Str.ofString "_law_names")) ::
  { cls := Value.type "code", data := Data.fields #[Value.str (Str.ofString "_law_names") 477, Value.str (Str.ofString "_law_names") 478, Value.str (Str.ofString "/claim/cut.py") 479, Value.int 130 0, Value.int 1 0, Value.int 0 0, Value.int 0 0, Value.int 3 0, Value.ref 248, Value.bool true, Value.int 181 0, Value.ref 249, Value.none, Value.ref 250, Value.ref 251, Value.ref 252, Value.int 484 0, Value.int 130 0, Value.str (Str.ofString "/claim/cut.py") 485] } ::
  (fnO (tS 21) (Str.ofString "_law_names") (Value.str (Str.ofString "law_pq0112_01") 421) 253) ::
  { cls := Value.type "tuple", data := Data.seq #[] } ::
  { cls := Value.none, data := Data.fields #[] } ::
  { cls := Value.type "tuple", data := Data.seq #[Value.str (Str.ofString "t") 490, Value.str (Str.ofString "found") 491, Value.str (Str.ofString "waiting") 492, Value.str (Str.ofString "here") 493] } ::
  { cls := Value.type "tuple", data := Data.seq #[] } ::
  (fnT (tS 22) (Str.ofString "_law_different")) ::
  { cls := Value.type "code", data := Data.fields #[Value.str (Str.ofString "_law_different") 487, Value.str (Str.ofString "_law_different") 488, Value.str (Str.ofString "/claim/cut.py") 489, Value.int 136 0, Value.int 1 0, Value.int 0 0, Value.int 0 0, Value.int 3 0, Value.ref 255, Value.bool true, Value.int 181 0, Value.ref 256, Value.none, Value.ref 257, Value.ref 258, Value.ref 259, Value.int 494 0, Value.int 136 0, Value.str (Str.ofString "/claim/cut.py") 495] } ::
  (fnO (tS 22) (Str.ofString "_law_different") (Value.str (Str.ofString "law_pq0112_01") 421) 260) ::
  { cls := Value.type "tuple", data := Data.seq #[] } ::
  { cls := Value.none, data := Data.fields #[] } ::
  (fnT (tS 23) (Str.ofString "_law_is_bank_right")) ::
  { cls := Value.type "code", data := Data.fields #[Value.str (Str.ofString "_law_is_bank_right") 497, Value.str (Str.ofString "_law_is_bank_right") 498, Value.str (Str.ofString "/claim/cut.py") 499, Value.int 144 0, Value.int 2 0, Value.int 0 0, Value.int 0 0, Value.int 3 0, Value.ref 262, Value.bool true, Value.int 181 0, Value.ref 263, Value.none, Value.none, Value.none, Value.ref 264, Value.int 500 0, Value.int 144 0, Value.str (Str.ofString "/claim/cut.py") 501] } ::
  (fnO (tS 23) (Str.ofString "_law_is_bank_right") (Value.str (Str.ofString "law_pq0112_01") 421) 265) ::
  { cls := Value.type "tuple", data := Data.seq #[] } ::
  { cls := Value.none, data := Data.fields #[] } ::
  { cls := Value.type "tuple", data := Data.seq #[Value.str (Str.ofString "t") 506, Value.str (Str.ofString "due") 507] } ::
  { cls := Value.type "tuple", data := Data.seq #[] } ::
  (fnT (tS 24) (Str.ofString "_law_is_named_right")) ::
  { cls := Value.type "code", data := Data.fields #[Value.str (Str.ofString "_law_is_named_right") 503, Value.str (Str.ofString "_law_is_named_right") 504, Value.str (Str.ofString "/claim/cut.py") 505, Value.int 151 0, Value.int 1 0, Value.int 0 0, Value.int 0 0, Value.int 3 0, Value.ref 267, Value.bool true, Value.int 181 0, Value.ref 268, Value.none, Value.ref 269, Value.ref 270, Value.ref 271, Value.int 508 0, Value.int 151 0, Value.str (Str.ofString "/claim/cut.py") 509] } ::
  (fnO (tS 24) (Str.ofString "_law_is_named_right") (Value.str (Str.ofString "law_pq0112_01") 421) 272) ::
  { cls := Value.type "tuple", data := Data.seq #[] } ::
  { cls := Value.none, data := Data.fields #[] } ::
  (fnT (tS 25) (Str.ofString "law")) ::
  { cls := Value.type "code", data := Data.fields #[Value.str (Str.ofString "law") 511, Value.str (Str.ofString "law") 512, Value.str (Str.ofString "/claim/cut.py") 513, Value.int 154 0, Value.int 1 0, Value.int 0 0, Value.int 0 0, Value.int 3 0, Value.ref 274, Value.bool true, Value.int 181 0, Value.ref 275, Value.none, Value.none, Value.none, Value.ref 276, Value.int 514 0, Value.int 154 0, Value.str (Str.ofString "/claim/cut.py") 515] } ::
  (fnO (tS 25) (Str.ofString "law") (Value.str (Str.ofString "law_pq0112_01") 421) 277) :: []
noncomputable def allO (P : Params) (o2 o3 o12 : Obj) : List Obj := ob0 P o2 o3 o12 ++ (ob1 P ++ (ob2 P ++ (ob3 P ++ (ob4 P ++ (ob5 P ++ (ob6 P ++ (ob7 P ++ (ob8 P))))))))
noncomputable def stAh (P : Params) : Heap := { objs := ((allO P
  { cls := Value.none, data := Data.dict #[] }
  { cls := Value.type "dict", data := Data.dict #[{ hash := PyData.keyHash P (Str.ofString "__name__"), key := Value.str (Str.ofString "__name__") 165, val := Value.str (Str.ofString "__main__") 164 }, { hash := PyData.keyHash P (Str.ofString "__doc__"), key := Value.str (Str.ofString "__doc__") 166, val := Value.none }, { hash := PyData.keyHash P (Str.ofString "__package__"), key := Value.str (Str.ofString "__package__") 167, val := Value.none }, { hash := PyData.keyHash P (Str.ofString "__loader__"), key := Value.str (Str.ofString "__loader__") 168, val := Value.builtin "__main__.__loader__#opaque" }, { hash := PyData.keyHash P (Str.ofString "__spec__"), key := Value.str (Str.ofString "__spec__") 169, val := Value.none }, { hash := PyData.keyHash P (Str.ofString "__annotations__"), key := Value.str (Str.ofString "__annotations__") 170, val := Value.ref 6 }, { hash := PyData.keyHash P (Str.ofString "__builtins__"), key := Value.str (Str.ofString "__builtins__") 171, val := Value.ref 4 }, { hash := PyData.keyHash P (Str.ofString "__file__"), key := Value.str (Str.ofString "__file__") 173, val := Value.str (Str.ofString "/claim/cut.py") 172 }, { hash := PyData.keyHash P (Str.ofString "__cached__"), key := Value.str (Str.ofString "__cached__") 174, val := Value.none }] 9 }
  { cls := Value.none, data := Data.fields #[] }).take 15).toArray, life := {} }
noncomputable abbrev stA (w : World) (os : OsState) : Shared := ⟨stAh w.params, Array.mk [], boot_drawn, 187, os⟩
noncomputable def stBh (P : Params) : Heap := { objs := ((allO P
  { cls := Value.none, data := Data.dict #[{ hash := PyData.keyHash P (Str.ofString "type.__subclasses__.Exception.0"), key := Value.str (Str.ofString "type.__subclasses__.Exception.0") 230, val := Value.int 47 0 }, { hash := PyData.keyHash P (Str.ofString "type.__subclasses__.Exception.n"), key := Value.str (Str.ofString "type.__subclasses__.Exception.n") 231, val := Value.int 1 0 }] 2 }
  { cls := Value.type "dict", data := Data.dict #[{ hash := PyData.keyHash P (Str.ofString "__name__"), key := Value.str (Str.ofString "__name__") 165, val := Value.str (Str.ofString "alikeheap.errors") 194 }, { hash := PyData.keyHash P (Str.ofString "__doc__"), key := Value.str (Str.ofString "__doc__") 166, val := Value.none }, { hash := PyData.keyHash P (Str.ofString "__package__"), key := Value.str (Str.ofString "__package__") 167, val := Value.none }, { hash := PyData.keyHash P (Str.ofString "__loader__"), key := Value.str (Str.ofString "__loader__") 168, val := Value.builtin "__main__.__loader__#opaque" }, { hash := PyData.keyHash P (Str.ofString "__spec__"), key := Value.str (Str.ofString "__spec__") 169, val := Value.none }, { hash := PyData.keyHash P (Str.ofString "__annotations__"), key := Value.str (Str.ofString "__annotations__") 170, val := Value.ref 6 }, { hash := PyData.keyHash P (Str.ofString "__builtins__"), key := Value.str (Str.ofString "__builtins__") 171, val := Value.ref 4 }, { hash := PyData.keyHash P (Str.ofString "__file__"), key := Value.str (Str.ofString "__file__") 173, val := Value.str (Str.ofString "/claim/cut.py") 172 }, { hash := PyData.keyHash P (Str.ofString "__cached__"), key := Value.str (Str.ofString "__cached__") 174, val := Value.none }, { hash := PyData.keyHash P (Str.ofString "_wall"), key := Value.str (Str.ofString "_wall") 193, val := Value.ref 21 }, { hash := PyData.keyHash P (Str.ofString "HeapError"), key := Value.str (Str.ofString "HeapError") 233, val := Value.ref 47 }, { hash := PyData.keyHash P (Str.ofString "TermFault"), key := Value.str (Str.ofString "TermFault") 249, val := Value.ref 60 }] 12 }
  { cls := Value.none, data := Data.fields #[Value.int 1 0, Value.int 0 0, Value.ref 20, Value.int 5 0, Value.int 0 0, Value.ref 28, Value.int 13 0, Value.int 0 0, Value.ref 56] }).take 63).toArray, life := {} }
noncomputable abbrev stB (w : World) (os : OsState) : Shared := ⟨stBh w.params, Array.mk [], boot_drawn, 250, os⟩
noncomputable def stCh (P : Params) : Heap := { objs := ((allO P
  { cls := Value.none, data := Data.dict #[{ hash := PyData.keyHash P (Str.ofString "type.__subclasses__.Exception.0"), key := Value.str (Str.ofString "type.__subclasses__.Exception.0") 230, val := Value.int 47 0 }, { hash := PyData.keyHash P (Str.ofString "type.__subclasses__.Exception.n"), key := Value.str (Str.ofString "type.__subclasses__.Exception.n") 231, val := Value.int 1 0 }] 2 }
  { cls := Value.type "dict", data := Data.dict #[{ hash := PyData.keyHash P (Str.ofString "__name__"), key := Value.str (Str.ofString "__name__") 165, val := Value.str (Str.ofString "alikeheap.terms") 250 }, { hash := PyData.keyHash P (Str.ofString "__doc__"), key := Value.str (Str.ofString "__doc__") 166, val := Value.none }, { hash := PyData.keyHash P (Str.ofString "__package__"), key := Value.str (Str.ofString "__package__") 167, val := Value.none }, { hash := PyData.keyHash P (Str.ofString "__loader__"), key := Value.str (Str.ofString "__loader__") 168, val := Value.builtin "__main__.__loader__#opaque" }, { hash := PyData.keyHash P (Str.ofString "__spec__"), key := Value.str (Str.ofString "__spec__") 169, val := Value.none }, { hash := PyData.keyHash P (Str.ofString "__annotations__"), key := Value.str (Str.ofString "__annotations__") 170, val := Value.ref 6 }, { hash := PyData.keyHash P (Str.ofString "__builtins__"), key := Value.str (Str.ofString "__builtins__") 171, val := Value.ref 4 }, { hash := PyData.keyHash P (Str.ofString "__file__"), key := Value.str (Str.ofString "__file__") 173, val := Value.str (Str.ofString "/claim/cut.py") 172 }, { hash := PyData.keyHash P (Str.ofString "__cached__"), key := Value.str (Str.ofString "__cached__") 174, val := Value.none }, { hash := PyData.keyHash P (Str.ofString "_wall"), key := Value.str (Str.ofString "_wall") 193, val := Value.ref 21 }, { hash := PyData.keyHash P (Str.ofString "HeapError"), key := Value.str (Str.ofString "HeapError") 233, val := Value.ref 47 }, { hash := PyData.keyHash P (Str.ofString "TermFault"), key := Value.str (Str.ofString "TermFault") 249, val := Value.ref 60 }, { hash := PyData.keyHash P (Str.ofString "is_op"), key := Value.str (Str.ofString "is_op") 257, val := Value.ref 67 }, { hash := PyData.keyHash P (Str.ofString "is_variable"), key := Value.str (Str.ofString "is_variable") 264, val := Value.ref 74 }, { hash := PyData.keyHash P (Str.ofString "variables"), key := Value.str (Str.ofString "variables") 270, val := Value.ref 79 }, { hash := PyData.keyHash P (Str.ofString "is_ground"), key := Value.str (Str.ofString "is_ground") 277, val := Value.ref 86 }, { hash := PyData.keyHash P (Str.ofString "parts"), key := Value.str (Str.ofString "parts") 283, val := Value.ref 91 }, { hash := PyData.keyHash P (Str.ofString "renamed"), key := Value.str (Str.ofString "renamed") 289, val := Value.ref 96 }] 18 }
  { cls := Value.none, data := Data.fields #[Value.int 1 0, Value.int 0 0, Value.ref 20, Value.int 5 0, Value.int 0 0, Value.ref 28, Value.int 13 0, Value.int 0 0, Value.ref 56, Value.int 16 0, Value.int 0 0, Value.ref 66, Value.int 18 0, Value.int 0 0, Value.ref 73, Value.int 20 0, Value.int 0 0, Value.ref 78, Value.int 22 0, Value.int 0 0, Value.ref 85, Value.int 24 0, Value.int 0 0, Value.ref 90, Value.int 29 0, Value.int 0 0, Value.ref 95] }).take 97).toArray, life := {} }
noncomputable abbrev stC (w : World) (os : OsState) : Shared := ⟨stCh w.params, Array.mk [], boot_drawn, 290, os⟩
noncomputable def stDh (P : Params) : Heap := { objs := ((allO P
  { cls := Value.none, data := Data.dict #[{ hash := PyData.keyHash P (Str.ofString "type.__subclasses__.Exception.0"), key := Value.str (Str.ofString "type.__subclasses__.Exception.0") 230, val := Value.int 47 0 }, { hash := PyData.keyHash P (Str.ofString "type.__subclasses__.Exception.n"), key := Value.str (Str.ofString "type.__subclasses__.Exception.n") 231, val := Value.int 1 0 }] 2 }
  { cls := Value.type "dict", data := Data.dict #[{ hash := PyData.keyHash P (Str.ofString "__name__"), key := Value.str (Str.ofString "__name__") 165, val := Value.str (Str.ofString "alikeheap.terms") 250 }, { hash := PyData.keyHash P (Str.ofString "__doc__"), key := Value.str (Str.ofString "__doc__") 166, val := Value.none }, { hash := PyData.keyHash P (Str.ofString "__package__"), key := Value.str (Str.ofString "__package__") 167, val := Value.none }, { hash := PyData.keyHash P (Str.ofString "__loader__"), key := Value.str (Str.ofString "__loader__") 168, val := Value.builtin "__main__.__loader__#opaque" }, { hash := PyData.keyHash P (Str.ofString "__spec__"), key := Value.str (Str.ofString "__spec__") 169, val := Value.none }, { hash := PyData.keyHash P (Str.ofString "__annotations__"), key := Value.str (Str.ofString "__annotations__") 170, val := Value.ref 6 }, { hash := PyData.keyHash P (Str.ofString "__builtins__"), key := Value.str (Str.ofString "__builtins__") 171, val := Value.ref 4 }, { hash := PyData.keyHash P (Str.ofString "__file__"), key := Value.str (Str.ofString "__file__") 173, val := Value.str (Str.ofString "/claim/cut.py") 172 }, { hash := PyData.keyHash P (Str.ofString "__cached__"), key := Value.str (Str.ofString "__cached__") 174, val := Value.none }, { hash := PyData.keyHash P (Str.ofString "_wall"), key := Value.str (Str.ofString "_wall") 193, val := Value.ref 21 }, { hash := PyData.keyHash P (Str.ofString "HeapError"), key := Value.str (Str.ofString "HeapError") 233, val := Value.ref 47 }, { hash := PyData.keyHash P (Str.ofString "TermFault"), key := Value.str (Str.ofString "TermFault") 249, val := Value.ref 60 }, { hash := PyData.keyHash P (Str.ofString "is_op"), key := Value.str (Str.ofString "is_op") 257, val := Value.ref 67 }, { hash := PyData.keyHash P (Str.ofString "is_variable"), key := Value.str (Str.ofString "is_variable") 264, val := Value.ref 74 }, { hash := PyData.keyHash P (Str.ofString "variables"), key := Value.str (Str.ofString "variables") 270, val := Value.ref 79 }, { hash := PyData.keyHash P (Str.ofString "is_ground"), key := Value.str (Str.ofString "is_ground") 277, val := Value.ref 86 }, { hash := PyData.keyHash P (Str.ofString "parts"), key := Value.str (Str.ofString "parts") 283, val := Value.ref 91 }, { hash := PyData.keyHash P (Str.ofString "renamed"), key := Value.str (Str.ofString "renamed") 289, val := Value.ref 96 }, { hash := PyData.keyHash P (Str.ofString "Bank"), key := Value.str (Str.ofString "Bank") 420, val := Value.ref 198 }] 19 }
  { cls := Value.none, data := Data.fields #[Value.int 1 0, Value.int 0 0, Value.ref 20, Value.int 5 0, Value.int 0 0, Value.ref 28, Value.int 13 0, Value.int 0 0, Value.ref 56, Value.int 16 0, Value.int 0 0, Value.ref 66, Value.int 18 0, Value.int 0 0, Value.ref 73, Value.int 20 0, Value.int 0 0, Value.ref 78, Value.int 22 0, Value.int 0 0, Value.ref 85, Value.int 24 0, Value.int 0 0, Value.ref 90, Value.int 29 0, Value.int 0 0, Value.ref 95, Value.int 31 0, Value.int 0 0, Value.ref 102] }).take 203).toArray, life := {} }
noncomputable abbrev stD (w : World) (os : OsState) : Shared := ⟨stDh w.params, Array.mk [], boot_drawn, 421, os⟩
noncomputable def stEh (P : Params) : Heap := { objs := ((allO P
  { cls := Value.none, data := Data.dict #[{ hash := PyData.keyHash P (Str.ofString "type.__subclasses__.Exception.0"), key := Value.str (Str.ofString "type.__subclasses__.Exception.0") 230, val := Value.int 47 0 }, { hash := PyData.keyHash P (Str.ofString "type.__subclasses__.Exception.n"), key := Value.str (Str.ofString "type.__subclasses__.Exception.n") 231, val := Value.int 1 0 }] 2 }
  { cls := Value.type "dict", data := Data.dict #[{ hash := PyData.keyHash P (Str.ofString "__name__"), key := Value.str (Str.ofString "__name__") 165, val := Value.str (Str.ofString "law_pq0112_01") 421 }, { hash := PyData.keyHash P (Str.ofString "__doc__"), key := Value.str (Str.ofString "__doc__") 166, val := Value.none }, { hash := PyData.keyHash P (Str.ofString "__package__"), key := Value.str (Str.ofString "__package__") 167, val := Value.none }, { hash := PyData.keyHash P (Str.ofString "__loader__"), key := Value.str (Str.ofString "__loader__") 168, val := Value.builtin "__main__.__loader__#opaque" }, { hash := PyData.keyHash P (Str.ofString "__spec__"), key := Value.str (Str.ofString "__spec__") 169, val := Value.none }, { hash := PyData.keyHash P (Str.ofString "__annotations__"), key := Value.str (Str.ofString "__annotations__") 170, val := Value.ref 6 }, { hash := PyData.keyHash P (Str.ofString "__builtins__"), key := Value.str (Str.ofString "__builtins__") 171, val := Value.ref 4 }, { hash := PyData.keyHash P (Str.ofString "__file__"), key := Value.str (Str.ofString "__file__") 173, val := Value.str (Str.ofString "/claim/cut.py") 172 }, { hash := PyData.keyHash P (Str.ofString "__cached__"), key := Value.str (Str.ofString "__cached__") 174, val := Value.none }, { hash := PyData.keyHash P (Str.ofString "_wall"), key := Value.str (Str.ofString "_wall") 193, val := Value.ref 21 }, { hash := PyData.keyHash P (Str.ofString "HeapError"), key := Value.str (Str.ofString "HeapError") 233, val := Value.ref 47 }, { hash := PyData.keyHash P (Str.ofString "TermFault"), key := Value.str (Str.ofString "TermFault") 249, val := Value.ref 60 }, { hash := PyData.keyHash P (Str.ofString "is_op"), key := Value.str (Str.ofString "is_op") 257, val := Value.ref 67 }, { hash := PyData.keyHash P (Str.ofString "is_variable"), key := Value.str (Str.ofString "is_variable") 264, val := Value.ref 74 }, { hash := PyData.keyHash P (Str.ofString "variables"), key := Value.str (Str.ofString "variables") 270, val := Value.ref 79 }, { hash := PyData.keyHash P (Str.ofString "is_ground"), key := Value.str (Str.ofString "is_ground") 277, val := Value.ref 86 }, { hash := PyData.keyHash P (Str.ofString "parts"), key := Value.str (Str.ofString "parts") 283, val := Value.ref 91 }, { hash := PyData.keyHash P (Str.ofString "renamed"), key := Value.str (Str.ofString "renamed") 289, val := Value.ref 96 }, { hash := PyData.keyHash P (Str.ofString "Bank"), key := Value.str (Str.ofString "Bank") 420, val := Value.ref 198 }, { hash := PyData.keyHash P (Str.ofString "_law_signs"), key := Value.str (Str.ofString "_law_signs") 424, val := Value.str (Str.ofString "az?-0 \t\n()[]{},:") 423 }, { hash := PyData.keyHash P (Str.ofString "_law_barred"), key := Value.str (Str.ofString "_law_barred") 430, val := Value.ref 209 }, { hash := PyData.keyHash P (Str.ofString "_law_ops"), key := Value.str (Str.ofString "_law_ops") 436, val := Value.ref 216 }, { hash := PyData.keyHash P (Str.ofString "_law_feed"), key := Value.str (Str.ofString "_law_feed") 442, val := Value.ref 221 }, { hash := PyData.keyHash P (Str.ofString "_law_dip"), key := Value.str (Str.ofString "_law_dip") 452, val := Value.ref 228 }, { hash := PyData.keyHash P (Str.ofString "_law_is_word"), key := Value.str (Str.ofString "_law_is_word") 460, val := Value.ref 235 }, { hash := PyData.keyHash P (Str.ofString "_law_drawn"), key := Value.str (Str.ofString "_law_drawn") 466, val := Value.ref 240 }, { hash := PyData.keyHash P (Str.ofString "_law_flat"), key := Value.str (Str.ofString "_law_flat") 476, val := Value.ref 247 }, { hash := PyData.keyHash P (Str.ofString "_law_names"), key := Value.str (Str.ofString "_law_names") 486, val := Value.ref 254 }, { hash := PyData.keyHash P (Str.ofString "_law_different"), key := Value.str (Str.ofString "_law_different") 496, val := Value.ref 261 }, { hash := PyData.keyHash P (Str.ofString "_law_is_bank_right"), key := Value.str (Str.ofString "_law_is_bank_right") 502, val := Value.ref 266 }, { hash := PyData.keyHash P (Str.ofString "_law_is_named_right"), key := Value.str (Str.ofString "_law_is_named_right") 510, val := Value.ref 273 }, { hash := PyData.keyHash P (Str.ofString "law"), key := Value.str (Str.ofString "law") 516, val := Value.ref 278 }] 32 }
  { cls := Value.none, data := Data.fields #[Value.int 1 0, Value.int 0 0, Value.ref 20, Value.int 5 0, Value.int 0 0, Value.ref 28, Value.int 13 0, Value.int 0 0, Value.ref 56, Value.int 16 0, Value.int 0 0, Value.ref 66, Value.int 18 0, Value.int 0 0, Value.ref 73, Value.int 20 0, Value.int 0 0, Value.ref 78, Value.int 22 0, Value.int 0 0, Value.ref 85, Value.int 24 0, Value.int 0 0, Value.ref 90, Value.int 29 0, Value.int 0 0, Value.ref 95, Value.int 31 0, Value.int 0 0, Value.ref 102, Value.int 102 0, Value.int 0 0, Value.ref 208, Value.int 104 0, Value.int 0 0, Value.ref 215, Value.int 106 0, Value.int 0 0, Value.ref 220, Value.int 108 0, Value.int 0 0, Value.ref 227, Value.int 114 0, Value.int 0 0, Value.ref 234, Value.int 119 0, Value.int 0 0, Value.ref 239, Value.int 123 0, Value.int 0 0, Value.ref 246, Value.int 130 0, Value.int 0 0, Value.ref 253, Value.int 136 0, Value.int 0 0, Value.ref 260, Value.int 144 0, Value.int 0 0, Value.ref 265, Value.int 151 0, Value.int 0 0, Value.ref 272, Value.int 154 0, Value.int 0 0, Value.ref 277] }).take 279).toArray, life := {} }
noncomputable abbrev stE (w : World) (os : OsState) : Shared := ⟨stEh w.params, Array.mk [], boot_drawn, 517, os⟩
noncomputable def cut (i n : Nat) : List Stmt := (prg.main.body.drop i).take n
noncomputable def bdy : List Stmt := cut 0 4 ++ (cut 4 7 ++ (cut 11 1 ++ (cut 12 14 ++ [])))
noncomputable def evE : Env := { scope := prg.main.scope, locals := mainNs, globals := mainNs, cells := [], code := .ref 13, frame := some 14 }
noncomputable abbrev cdE : Code := .body bdy evE
abbrev pq : Pos := ⟨0, 0, 0, 0⟩
theorem pre0 (w : World) (os : OsState) : topGo treeTable prg w 11 (some (.ref 6)) 12 ⟨boot_heap w.params, Array.mk [], boot_drawn, boot_toks, os⟩ (topStub prg) = some (stA w os, ⟨denote treeTable cdE, cdE, pq, [topFrame pq]⟩) := by kernel_rfl
theorem blk0 (w : World) (os : OsState) : segRun treeTable prg w 11 (some (.ref 6)) 1 1 (stA w os) (blockOf bdy evE cdE pq [topFrame pq]) = some (.next, stA w os, cdE, pq) := by kernel_rfl
theorem seg1 (w : World) (os : OsState) : segRun treeTable prg w 11 (some (.ref 6)) 1 600 (stA w os) (piecesOf (cut 0 4) evE cdE pq [topFrame pq]) = some (.next, stB w os, cdE, ⟨13, 0, 14, 8⟩) := by kernel_rfl
theorem seg2 (w : World) (os : OsState) : segRun treeTable prg w 11 (some (.ref 6)) 1 300 (stB w os) (piecesOf (cut 4 7) evE cdE ⟨13, 0, 14, 8⟩ [topFrame pq]) = some (.next, stC w os, cdE, ⟨29, 0, 30, 83⟩) := by kernel_rfl
theorem seg3 (w : World) (os : OsState) : segRun treeTable prg w 11 (some (.ref 6)) 1 700 (stC w os) (piecesOf (cut 11 1) evE cdE ⟨29, 0, 30, 83⟩ [topFrame pq]) = some (.next, stD w os, cdE, ⟨31, 0, 99, 56⟩) := by kernel_rfl
theorem seg4 (w : World) (os : OsState) : segRun treeTable prg w 11 (some (.ref 6)) 1 500 (stD w os) (piecesOf (cut 12 14) evE cdE ⟨31, 0, 99, 56⟩ [topFrame pq]) = some (.next, stE w os, cdE, ⟨154, 0, 175, 38⟩) := by kernel_rfl
theorem end0 (w : World) (os : OsState) : topRun treeTable prg w 11 (some (.ref 6)) 3 (stE w os) ⟨doneF .next, cdE, ⟨154, 0, 175, 38⟩, [topFrame pq]⟩ = some (stE w os) := by kernel_rfl
theorem run0 (w : World) (os : OsState) : topRun treeTable prg w 11 (some (.ref 6)) (12 + (1 + (600 + (300 + (700 + (500 + 3)))))) ⟨boot_heap w.params, Array.mk [], boot_drawn, boot_toks, os⟩ (topStub prg) = some (stE w os) :=
  go_top (pre0 w os) (piece_block (blk0 w os) (piece_app (seg1 w os) (piece_app (seg2 w os) (piece_app (seg3 w os) (piece_app (seg4 w os) (piece_nil (end0 w os)))))))
theorem boot0 (N : Nat) (hN : Nat.ble 600 N = true) : ∀ w : World, (fencedOpening treeTable prg w N).map (fun s => (s.heap, s.gens, s.drawn, s.toks)) = some (boot_heap w.params, Array.mk [], boot_drawn, boot_toks) :=
  boot_open (by kernel_rfl) hN (fun s => by kernel_rfl)
theorem size0 (w : World) : ((boot_heap w.params).isNs mainGlobals && (Array.mk [] : Array GenState).size == 0, (boot_heap w.params).objs.size, (boot_heap w.params).nsMap mainGlobals "__annotations__") = (true, 11, some (.ref 6)) := by kernel_rfl
theorem looks0 (w : World) : (fun os => ((staticsOk (importedModules prg.main.body) (boot_heap w.params) (stEh w.params) && namesBound prg (stEh w.params) && gensDone (stE w os) && laidKept (boot_heap w.params) (stEh w.params)),
    openSeen qv looseL (importedModules prg.main.body) XtL true (stE w os), kH.obs (stE w os))) = fun _ => (true, openGood qv looseL, kH.val w) := by kernel_rfl
theorem left0 : LeftO prg qv looseL XtL kH.obs kH.val 3600 :=
  LeftO.of_pieces (open_ := boot0 3600 rfl) (size := size0) (run := run0) (le := rfl) (looks := looks0)
theorem said0 : rw0.wellSaid = true := by kernel_rfl
theorem ok0 : (chainsOk qv && opensWell rw0.row.prog && (frees rw0.row.toRowW && rw0.row.within.isEmpty)) = true := by kernel_rfl
theorem law_def : ∃ d kwd, defOf qv rw0.row.name = some (d, kwd) ∧ rw0.row.prog.theDef rw0.row.name = some (d.params, d.body, d.scope) ∧ kwWritten? d.params.kwonlyargs d.params.kw_defaults = some kwd := ⟨_, _, by rfl, by rfl, by rfl⟩
theorem wit0 : rw0.row.toRowW.promised := ⟨[.list []], by decide +kernel, by decide +kernel⟩
theorem head (call : ∀ d kwd, defOf qv rw0.row.name = some (d, kwd) → WalkO qv looseL (XL qv []) kH.says rw0.row.toRowW d kwd fun f vs => PySem.call f vs) : rw0.Holds := by
  refine holds_law said0 fun said => ?_
  obtain ⟨d, kwd, h1, h2, h3⟩ := law_def
  exact PySem.W.holds_open (q := qv) (loose := looseL) (Xt := XtL) (XP := XL qv []) (Yf := kH.obs) (Ya := kH.val) (YP := kH.says) (N := 3600) left0 (Hook.of kH) (Hook.keeps kH) (fun s e => xl_of s (Bool.and_eq_true_iff.mp e).1) XL.keeps
    h1 h2 h3 (fun s e => recFacts_of (Bool.and_eq_true_iff.mp e).2) (by rfl) said ok0 ⟨rfl, rfl, rfl, rfl, rfl, by decide +kernel⟩ wit0 (call d kwd h1)
end Mine

namespace Mine

/-- a state by its heap and its count -/
abbrev Sh (s : Shared) (h : Heap) (tk : Nat) : Shared := { s with heap := h, toks := tk }
abbrev NE : Value → Shared → Prop := fun _ _ => False
/-- a plain tuple -/
def Tp (h : Heap) (a : Addr) (vs : List Value) : Prop := ∃ n, h.get? a = some { cls := .type "tuple", data := .seq vs.toArray n }
/-- a plain list -/
def Ls (h : Heap) (a : Addr) (vs : List Value) : Prop := ∃ n, h.get? a = some { cls := .type "list", data := .seq vs.toArray n }

theorem Ls.plain {h : Heap} {a : Addr} {vs : List Value} (x : Ls h a vs) : h.PlainList a vs.toArray := x
theorem Ls.ofPlain {h : Heap} {a : Addr} {vs : Array Value} (x : h.PlainList a vs) : Ls h a vs.toList := by simpa [Ls, Heap.PlainList] using x
theorem Ls.isList {h : Heap} {a : Addr} {vs : List Value} (x : Ls h a vs) : h.IsList a vs.toArray := x.plain.isList
theorem Tp.isTuple {h : Heap} {a : Addr} {vs : List Value} (x : Tp h a vs) : h.IsTuple a vs.toArray := let ⟨n, e⟩ := x; ⟨_, e, rfl, n, rfl⟩
theorem Ls.lt {h : Heap} {a : Addr} {vs : List Value} (x : Ls h a vs) : a < h.objs.size := let ⟨_, e⟩ := x; Heap.lt_size e
theorem Tp.lt {h : Heap} {a : Addr} {vs : List Value} (x : Tp h a vs) : a < h.objs.size := let ⟨_, e⟩ := x; Heap.lt_size e
theorem Tp.ne_ls {h : Heap} {a b : Addr} {vs us : List Value} (x : Tp h a vs) (y : Ls h b us) : a ≠ b := by
  rintro rfl
  obtain ⟨n, e⟩ := x; obtain ⟨m, e'⟩ := y
  rw [e] at e'; injection e' with e'; injection e' with e'; injection e' with e'; exact absurd e' (by decide)
theorem Tp.inj {h : Heap} {a : Addr} {vs us : List Value} (x : Tp h a vs) (y : Tp h a us) : vs = us := by
  obtain ⟨n, e⟩ := x; obtain ⟨m, e'⟩ := y
  rw [e] at e'; injection e' with e'; injection e' with _ _ e' _; injection e' with e' _
  simpa using congrArg Array.toList e'
theorem Tp.newTuple (h : Heap) (vs : List Value) : Tp (h.push { cls := .type "tuple", data := .seq vs.toArray }) h.objs.size vs := ⟨0, Heap.get?_push_size _ rfl⟩
theorem Ls.newList (h : Heap) (vs : List Value) : Ls (h.push { cls := .type "list", data := .seq vs.toArray }) h.objs.size vs := ⟨0, Heap.get?_push_size _ rfl⟩
theorem Ls.typeIs {s : Shared} {a : Addr} {vs : List Value} (x : Ls s.heap a vs) : s.TypeIs (.ref a) "list" := x.isList.typeIs
theorem Tp.typeIs {s : Shared} {a : Addr} {vs : List Value} (x : Tp s.heap a vs) : s.TypeIs (.ref a) "tuple" := x.isTuple.typeIs

/-- what a step keeps: all but P, and every tuple -/
structure Kx (P : Addr → Prop) (h h' : Heap) : Prop where
  k : ∀ b o, ¬ P b → h.get? b = some o → h'.get? b = some o
  t : ∀ b vs, Tp h b vs → Tp h' b vs

abbrev Non : Addr → Prop := fun _ => False

theorem Kx.refl (P : Addr → Prop) (h : Heap) : Kx P h h := ⟨fun _ _ _ e => e, fun _ _ e => e⟩
theorem Kx.trans {P : Addr → Prop} {h₁ h₂ h₃ : Heap} (x : Kx P h₁ h₂) (y : Kx P h₂ h₃) : Kx P h₁ h₃ :=
  ⟨fun b o hb e => y.k b o hb (x.k b o hb e), fun b vs e => y.t b vs (x.t b vs e)⟩
theorem Kx.mono {P Q : Addr → Prop} {h h' : Heap} (x : Kx P h h') (hPQ : ∀ b, P b → Q b) : Kx Q h h' := ⟨fun b o hb e => x.k b o (fun hp => hb (hPQ b hp)) e, x.t⟩
theorem Kx.ofNon {Q : Addr → Prop} {h h' : Heap} (x : Kx Non h h') : Kx Q h h' := x.mono fun _ h => h.elim
theorem Kx.all {h h' : Heap} (x : Kx Non h h') : ∀ b o, h.get? b = some o → h'.get? b = some o := fun b o e => x.k b o (fun h => h) e
theorem Kx.ofAll {h h' : Heap} (x : ∀ b o, h.get? b = some o → h'.get? b = some o) : Kx Non h h' := ⟨fun b o _ e => x b o e, fun b _ ⟨n, e⟩ => ⟨n, x b _ e⟩⟩
theorem Kx.push (h : Heap) (o : Obj) : Kx Non h (h.push o) := .ofAll fun _ _ e => Heap.get?_push_of_some _ e
theorem Kx.ext {a : Addr} {h h' : Heap} (x : Heap.ExtBut a h h') (ha : ∀ vs, ¬ Tp h a vs) : Kx (· = a) h h' :=
  ⟨fun b o hb e => x b o hb e, fun b vs ⟨n, e⟩ => ⟨n, x b _ (by rintro rfl; exact ha vs ⟨n, e⟩) e⟩⟩
theorem Kx.same {a : Addr} {h h' : Heap} (x : Heap.SameBut a h h') (ha : ∀ vs, ¬ Tp h a vs) : Kx (· = a) h h' := .ext x.extBut ha
theorem Kx.but {P : Addr → Prop} {h h' : Heap} (x : ∀ b o, ¬ P b → h.get? b = some o → h'.get? b = some o) (ha : ∀ b vs, P b → ¬ Tp h b vs) : Kx P h h' :=
  ⟨x, fun b vs ⟨n, e⟩ => ⟨n, x b _ (fun hp => ha b vs hp ⟨n, e⟩) e⟩⟩
/-- drop what the start did not hold -/
theorem Kx.fresh {P Q : Addr → Prop} {h h' : Heap} (x : Kx P h h') (hP : ∀ b, P b → Q b ∨ h.get? b = none) : Kx Q h h' :=
  ⟨fun b o hb e => x.k b o (fun hp => (hP b hp).elim hb fun e' => by rw [e'] at e; cases e) e, x.t⟩
theorem get_none_of_ge {h : Heap} {b : Addr} (hb : h.objs.size ≤ b) : h.get? b = none := by
  cases e : h.get? b with
  | none => rfl
  | some o => exact absurd (Heap.lt_size e) (Nat.not_lt.mpr hb)

theorem Ls.kx {P : Addr → Prop} {h h' : Heap} {a : Addr} {vs : List Value} (x : Ls h a vs) (k : Kx P h h') (ha : ¬ P a) : Ls h' a vs := let ⟨n, e⟩ := x; ⟨n, k.k a _ ha e⟩
theorem Tp.kx {P : Addr → Prop} {h h' : Heap} {a : Addr} {vs : List Value} (x : Tp h a vs) (k : Kx P h h') : Tp h' a vs := k.t a vs x
theorem Ns.kx {P : Addr → Prop} {h h' : Heap} {a : Addr} {m : Str → Option Value} (x : h.Ns a m) (k : Kx P h h') (ha : ¬ P a) : h'.Ns a m := x.at' fun o e => k.k a o ha e
theorem Cell.kx {P : Addr → Prop} {h h' : Heap} {a : Addr} {v : Option Value} (x : h.IsCell a v) (k : Kx P h h') (ha : ¬ P a) : h'.IsCell a v := let ⟨o, ho, r⟩ := x; ⟨o, k.k a o ha ho, r⟩
theorem not_tp_of_ns {h : Heap} {a : Addr} {m : Str → Option Value} (x : h.Ns a m) : ∀ vs, ¬ Tp h a vs := by
  rintro vs ⟨n, e⟩; obtain ⟨o, es, ep, ho, hd, _⟩ := x; rw [e] at ho; cases ho; cases hd
theorem not_tp_of_cell {h : Heap} {a : Addr} {v : Option Value} (x : h.IsCell a v) : ∀ vs, ¬ Tp h a vs := by
  rintro vs ⟨n, e⟩; obtain ⟨o, ho, hd⟩ := x; rw [e] at ho; cases ho; cases hd
theorem not_tp_of_ls {h : Heap} {a : Addr} {us : List Value} (x : Ls h a us) : ∀ vs, ¬ Tp h a vs := fun _ y => y.ne_ls x rfl
theorem not_tp_of_cls {h : Heap} {a : Addr} {o : Obj} (ho : h.get? a = some o) (hc : o.cls ≠ .type "tuple") : ∀ vs, ¬ Tp h a vs := by
  rintro vs ⟨n, e⟩; rw [e] at ho; cases ho; exact hc rfl
theorem not_tp_of_none {h : Heap} {a : Addr} (ho : h.get? a = none) : ∀ vs, ¬ Tp h a vs := by
  rintro vs ⟨n, e⟩; rw [e] at ho; cases ho

/-- the top, kept -/
structure Bs (K : Frag) (h0 h : Heap) : Prop where
  K : K.In h0
  g : ∃ mg mb, h0.Ns mainGlobals mg ∧ h0.Ns builtinsNs mb ∧ ∀ x : Str, x ≠ "__name__" → mb x = bootBuiltins x
  lim : h0.NoLimit
  keep : ∀ b o, h0.get? b = some o → h.get? b = some o

/-- what is changed is none of the top's -/
abbrev Off (h0 : Heap) (P : Addr → Prop) : Prop := ∀ b, P b → h0.get? b = none

theorem Bs.kx {K : Frag} {h0 h h' : Heap} {P : Addr → Prop} (B : Bs K h0 h) (k : Kx P h h') (o : Off h0 P) : Bs K h0 h' :=
  ⟨B.K, B.g, B.lim, fun b ob e => k.k b ob (fun hp => by rw [o b hp] at e; cases e) (B.keep b ob e)⟩
theorem Bs.non {K : Frag} {h0 h h' : Heap} (B : Bs K h0 h) (k : Kx Non h h') : Bs K h0 h' := B.kx k fun _ h => h.elim
theorem Bs.inK {K : Frag} {h0 h : Heap} (B : Bs K h0 h) : K.In h := fun a o e => B.keep a o (B.K a o e)
theorem Bs.nolim {K : Frag} {h0 h : Heap} (B : Bs K h0 h) : h.NoLimit := B.lim.keeps B.keep
theorem Bs.off_ge {K : Frag} {h0 h : Heap} (B : Bs K h0 h) {b : Addr} (hb : h.get? b = none) : h0.get? b = none := by
  cases e : h0.get? b with
  | none => rfl
  | some o => rw [B.keep b o e] at hb; cases hb
theorem Bs.off_new {K : Frag} {h0 h : Heap} (B : Bs K h0 h) {b : Addr} (hb : h.objs.size ≤ b) : h0.get? b = none := B.off_ge (get_none_of_ge hb)

/-- room for n more levels -/
structure Rm (n : Nat) (A : Around) : Prop where
  h : A.handled = none
  d : A.depth + n ≤ 900
  u : A.units + 20 * n ≤ 9000
theorem Rm.deeper {n : Nat} {A : Around} {env : Env} (r : Rm (n + 1) A) : Rm n (A.deeper env) := by
  obtain ⟨h, d, u⟩ := r
  refine ⟨h, ?_, ?_⟩
  · show A.depth + 1 + n ≤ 900; omega
  · show A.units + 3 + 20 * n ≤ 9000; omega
theorem Rm.in1 {n : Nat} {A : Around} (r : Rm (n + 1) A) : Rm n A.in1 := by
  obtain ⟨h, d, u⟩ := r
  refine ⟨h, ?_, ?_⟩
  · show A.depth + n ≤ 900; omega
  · show A.units + 1 + 20 * n ≤ 9000; omega
theorem Rm.le {n m : Nat} {A : Around} (r : Rm n A) (h : m ≤ n) : Rm m A := ⟨r.h, by have := r.d; omega, by have := r.u; omega⟩
theorem Rm.room {n : Nat} {A : Around} (r : Rm n A) : A.depth < recursionLimit := by have := r.d; show _ < 1000; omega
theorem Rm.units {n : Nat} {A : Around} (r : Rm n A) : A.units < cLine := by have := r.u; show _ < 9900; omega
theorem Rm.units1 {n : Nat} {A : Around} (r : Rm n A) : A.in1.units < cLine := by have := r.u; show _ + 1 < 9900; omega

/-- the frame: its names, its cells -/
structure Fx (env : Env) (m cm : Str → Option Value) (h : Heap) : Prop where
  ns : h.Ns env.locals m
  cell : ∀ n c, env.cells.lookup n = some c → h.IsCell c (cm n)
  apart : env.cells.Pairwise fun x y => x.2 ≠ y.2
  above : ∀ n c, (n, c) ∈ env.cells → env.locals < c
  nd : (env.cells.map (·.1)).Nodup

/-- the frame's own addresses -/
def Env.mine (env : Env) (b : Addr) : Prop := b = env.locals ∨ ∃ n, (n, b) ∈ env.cells

theorem Fx.kx {env : Env} {m cm : Str → Option Value} {h h' : Heap} {P : Addr → Prop} (F : Fx env m cm h) (k : Kx P h h') (hP : ∀ b, P b → ¬ Env.mine env b) : Fx env m cm h' :=
  ⟨Ns.kx F.ns k fun hp => hP _ hp (.inl rfl), fun n c hc => Cell.kx (F.cell n c hc) k fun hp => hP _ hp (.inr ⟨n, mem_of_lookup hc⟩), F.apart, F.above, F.nd⟩
theorem Fx.live {env : Env} {m cm : Str → Option Value} {h : Heap} (F : Fx env m cm h) {b : Addr} (hb : Env.mine env b) : ∃ o, h.get? b = some o := by
  rcases hb with rfl | ⟨n, hn⟩
  · obtain ⟨o, _, _, ho, _⟩ := F.ns; exact ⟨o, ho⟩
  · obtain ⟨o, ho, _⟩ := F.cell n b (lookup_of_mem_nodup F.nd hn); exact ⟨o, ho⟩
theorem Kx.gone {h h' : Heap} (k : Kx Non h h') {b : Addr} (e : h'.get? b = none) : h.get? b = none := by
  cases q : h.get? b with
  | none => rfl
  | some o => rw [k.all b o q] at e; cases e
theorem Kx.gone_ge {h h' : Heap} (k : Kx Non h h') {b : Addr} (e : h'.objs.size ≤ b) : h.get? b = none := k.gone (get_none_of_ge e)
abbrev Fx.own {env : Env} {m cm : Str → Option Value} {h : Heap} (_F : Fx env m cm h) : Addr → Prop := Env.mine env
theorem Fx.lt {env : Env} {m cm : Str → Option Value} {h : Heap} (F : Fx env m cm h) {b : Addr} (hb : Env.mine env b) : b < h.objs.size := by
  rcases hb with rfl | ⟨n, hn⟩
  · exact F.ns.lt
  · exact (F.cell n b (lookup_of_mem_nodup F.nd hn)).lt
theorem Fx.non {env : Env} {m cm : Str → Option Value} {h h' : Heap} (F : Fx env m cm h) (k : Kx Non h h') : Fx env m cm h' := F.kx k fun _ h => h.elim

section
variable {prog : Program} {w : World} {A : Around} {E : Value → Shared → Prop} {s : Shared} {h : Heap} {tk : Nat} {K : Frag} {h0 : Heap} {env : Env} {m cm : Str → Option Value}

theorem ne_any {α : Type} {M : Model} {t : Sem α} {Q : α → Shared → Prop} (x : wpAny M A t Q NE s) : wpAny M A t Q E s := wpAny_mono x (fun _ _ y => y) fun _ _ y => y.elim

theorem nm_K {x : Str} {pos : Pos} {v : Value} {Q : Value → Shared → Prop} (B : Bs K h0 h) (e : nsIn K mainGlobals x = some (some v)) (hQ : Q v (Sh s h tk))
    (hk : env.scope.kind = .function := by rfl) (hx : env.kindOf x = some .globalImplicit := by rfl) (hg : env.globals = mainGlobals := by rfl)
    (hd : (x == ("__debug__" : Str)) = false := by decide) : wpAny (model prog w) A (eval (.Name x pos) env) Q E (Sh s h tk) := by
  obtain ⟨mg, mb, h1, h2, h3⟩ := B.g
  exact Name_function_global hk hx (loadGlobal_global (hg ▸ h1.keeps B.keep) (mg_of B.K h1 e) hQ) hd

theorem nm_B {x : Str} {pos : Pos} {v : Value} {Q : Value → Shared → Prop} (B : Bs K h0 h) (e : nsIn K mainGlobals x = some none) (hv : bootBuiltins x = some v) (hQ : Q v (Sh s h tk))
    (hk : env.scope.kind = .function := by rfl) (hx : env.kindOf x = some .globalImplicit := by rfl) (hg : env.globals = mainGlobals := by rfl) (hb : env.builtins = builtinsNs := by rfl)
    (hn : x ≠ "__name__" := by decide) (hd : (x == ("__debug__" : Str)) = false := by decide) : wpAny (model prog w) A (eval (.Name x pos) env) Q E (Sh s h tk) := by
  obtain ⟨mg, mb, h1, h2, h3⟩ := B.g
  exact Name_function_global hk hx (loadGlobal_builtin (hg ▸ h1.keeps B.keep) (mg_none_of B.K h1 e) (hb ▸ h2.keeps B.keep) ((h3 x hn).trans hv) hQ) hd

theorem nm_L {x : Str} {pos : Pos} {v : Value} {Q : Value → Shared → Prop} (F : h.Ns env.locals m) (hv : m x = some v) (hQ : Q v (Sh s h tk))
    (hk : env.scope.kind = .function := by rfl) (hx : env.kindOf x = some .local := by rfl) (hd : (x == ("__debug__" : Str)) = false := by decide) :
    wpAny (model prog w) A (eval (.Name x pos) env) Q E (Sh s h tk) := wpAny_Name (wpAny_loadName_local hk hx F hv hQ) hd
theorem nm_C {x : Str} {pos : Pos} {c : Addr} {v : Value} {Q : Value → Shared → Prop} (hv : h.IsCell c (some v)) (hQ : Q v (Sh s h tk)) (hc : env.cells.lookup x = some c := by rfl)
    (hk : env.scope.kind = .function := by rfl) (hx : env.kindOf x = some .cell := by rfl) (hd : (x == ("__debug__" : Str)) = false := by decide) :
    wpAny (model prog w) A (eval (.Name x pos) env) Q E (Sh s h tk) := wpAny_Name (wpAny_loadName_cell hk hx hc hv hQ) hd

/-- a store into a plain name -/
theorem st_L {x : Str} {v : Value} {Q : Unit → Shared → Prop} (F : Fx env m cm h)
    (hQ : ∀ h' tk', Fx env (fun y => if y = x then some v else m y) cm h' → Kx (· = env.locals) h h' → Q () (Sh s h' tk'))
    (hk : env.scope.kind = .function := by rfl) (hx : env.kindOf x = some .local := by rfl) : wpAny (model prog w) A (storeName env x v) Q E (Sh s h tk) := by
  refine wpAny_storeName_local hx F.ns (fun h' hn hs => ?_) (by rw [hk]; rfl)
  have k := Kx.same hs (not_tp_of_ns F.ns)
  exact hQ h' _ ⟨hn, fun n c hc => Cell.kx (F.cell n c hc) k fun e => by have := F.above n c (mem_of_lookup hc); rw [e] at this; exact Nat.lt_irrefl _ this, F.apart, F.above, F.nd⟩ k
/-- a store into a cell -/
theorem st_C {x : Str} {v : Value} {c : Addr} {Q : Unit → Shared → Prop} (F : Fx env m cm h)
    (hQ : ∀ h' tk', Fx env m (fun y => if y = x then some v else cm y) h' → Kx (· = c) h h' → Q () (Sh s h' tk'))
    (hc : env.cells.lookup x = some c := by rfl) (hk : env.scope.kind = .function := by rfl) (hx : env.kindOf x = some .cell := by rfl) : wpAny (model prog w) A (storeName env x v) Q E (Sh s h tk) := by
  refine wpAny_storeName_cell hk hx hc (F.cell x c hc) fun h' hv hs => ?_
  have k := Kx.same hs (not_tp_of_cell (F.cell x c hc))
  refine hQ h' _ ⟨Ns.kx F.ns k fun e => by have := F.above x c (mem_of_lookup hc); rw [e] at this; exact Nat.lt_irrefl _ this, fun n c' hc' => ?_, F.apart, F.above, F.nd⟩ k
  by_cases hn : n = x
  · subst hn; rw [hc] at hc'; cases hc'; simpa using hv
  · rw [if_neg hn]
    exact Cell.kx (F.cell n c' hc') k fun e => hn (name_of_addr F.apart (mem_of_lookup hc') (e ▸ mem_of_lookup hc))

/-- the frame of a call -/
abbrev fenv (qual : Str) (scope : Scope) (L f : Addr) (cdv : Value) : Env := envOfC qual scope L f cdv

theorem enterE {f : Addr} {R : Result → Shared → Prop} {name qual : Str} {params : Arguments} {body : List Stmt} {scope : Scope} {dV kV doc pm cdv ct oc : Value} {an od : Option Addr} {osl : Array (Option Value)} {vals : List Value}
    {binds : List (Str × Value)} {n : Nat} (r : Rm (n + 1) A) (B : Bs K h0 h)
    (ho : K.lookup f = some ⟨oc, od, .func (fnOf name qual params body scope dV kV doc pm an cdv ct), osl⟩) (hcd : codeIn K cdv qual = true)
    (hbind : bindArgs (fnOf name qual params body scope dV kV doc pm an cdv ct) ⟨vals, []⟩ = pure binds)
    (hkind : (binds.all fun y => scope.names.lookup y.1 == some .local || scope.names.lookup y.1 == some .cell) = true)
    (hbody : ∀ L h₁ tk₁, L = h.objs.size → Rm n (A.deeper (fenv qual scope L f cdv)) → Bs K h0 h₁ → Kx Non h h₁ → (∀ b, Env.mine (fenv qual scope L f cdv) b → h.objs.size ≤ b ∧ b < h₁.objs.size) →
      Fx (fenv qual scope L f cdv) (bindL (fenv qual scope L f cdv).kindOf binds fun _ => none) (bindC (fenv qual scope L f cdv).kindOf binds fun _ => none) h₁ →
      wpAny (model prog w) (A.deeper (fenv qual scope L f cdv)) (execs body (fenv qual scope L f cdv)) (fun fl s' => R (.ok (.ret (match fl with | .ret v => v | _ => .none))) s')
        (fun e s' => wpAny (model prog w) (A.deeper (fenv qual scope L f cdv)) (leaving (fenv qual scope L f cdv) e) (fun _ s'' => R (.error e) s'') (fun e' s'' => R (.error e') s'') s')
        (Sh s h₁ tk₁))
    (hnd : ((cellsFrom 0 scope.names []).map (·.1)).Nodup := by decide) (hco : scope.isCoroutine = false := by rfl) (hgen : scope.isGenerator = false := by rfl) (hk : scope.kind = .function := by rfl) :
    codeAny (model prog w) A (.call (.ref f) ⟨vals, []⟩) R (Sh s h tk) := by
  refine codeAny_call_cells (fd := fnOf name qual params body scope dV kV doc pm an cdv ct) r.room (B.inK _ _ ho) rfl B.nolim (codeRec_of B.inK hcd) rfl hbind rfl (kindsX hkind _) (fun s₁ I => ?_) hco hgen hk
  obtain ⟨h₁, tk₁, rfl, hk₁⟩ := I.done
  have k : Kx Non h h₁ := .ofAll hk₁
  refine hbody _ h₁ tk₁ rfl r.deeper (B.non k) k (fun b hb => ?_) ⟨I.toInCall.ns, I.cell, I.apart, I.above, cellsFrom_names scope.names 0 (h.objs.size + 1) [] [] rfl ▸ hnd⟩
  rcases hb with rfl | ⟨x, hx⟩
  · exact ⟨Nat.le_refl _, I.toInCall.ns.lt⟩
  · have := I.above x b hx
    refine ⟨Nat.le_of_lt this, ?_⟩
    have hl := lookup_of_mem_nodup (cellsFrom_names scope.names 0 (h.objs.size + 1) [] [] rfl ▸ hnd) hx
    exact (I.cell x b hl).lt

/-- a call that raises nothing -/
theorem enter {f : Addr} {R : Result → Shared → Prop} {name qual : Str} {params : Arguments} {body : List Stmt} {scope : Scope} {dV kV doc pm cdv ct oc : Value} {an od : Option Addr} {osl : Array (Option Value)} {vals : List Value}
    {binds : List (Str × Value)} {n : Nat} (r : Rm (n + 1) A) (B : Bs K h0 h)
    (ho : K.lookup f = some ⟨oc, od, .func (fnOf name qual params body scope dV kV doc pm an cdv ct), osl⟩) (hcd : codeIn K cdv qual = true)
    (hbind : bindArgs (fnOf name qual params body scope dV kV doc pm an cdv ct) ⟨vals, []⟩ = pure binds)
    (hkind : (binds.all fun y => scope.names.lookup y.1 == some .local || scope.names.lookup y.1 == some .cell) = true)
    (hbody : ∀ L h₁ tk₁, L = h.objs.size → Rm n (A.deeper (fenv qual scope L f cdv)) → Bs K h0 h₁ → Kx Non h h₁ → (∀ b, Env.mine (fenv qual scope L f cdv) b → h.objs.size ≤ b ∧ b < h₁.objs.size) →
      Fx (fenv qual scope L f cdv) (bindL (fenv qual scope L f cdv).kindOf binds fun _ => none) (bindC (fenv qual scope L f cdv).kindOf binds fun _ => none) h₁ →
      wpAny (model prog w) (A.deeper (fenv qual scope L f cdv)) (execs body (fenv qual scope L f cdv)) (fun fl s' => R (.ok (.ret (match fl with | .ret v => v | _ => .none))) s') NE (Sh s h₁ tk₁))
    (hnd : ((cellsFrom 0 scope.names []).map (·.1)).Nodup := by decide) (hco : scope.isCoroutine = false := by rfl) (hgen : scope.isGenerator = false := by rfl) (hk : scope.kind = .function := by rfl) :
    codeAny (model prog w) A (.call (.ref f) ⟨vals, []⟩) R (Sh s h tk) :=
  enterE r B ho hcd hbind hkind (fun L h₁ tk₁ a b c d e f => ne_any (hbody L h₁ tk₁ a b c d e f)) hnd hco hgen hk

theorem cw_K {f : Value} {pos : Pos} {e : Expr} {rest : List Expr} {Q : Value → Shared → Prop} (hk : keepIn K f = true)
    (hh : wpAny (model prog w) A (spliced (backTo pos (starEach (e :: rest) env))) (fun vs s₁ => Bs K h0 s₁.heap ∧ wpAny (model prog w) A (call f vs) Q E s₁) E s)
    (he : starEach (e :: rest) env = (false, eval e env) :: starEach rest env := by rfl) (hplain : (backTo pos (starEach rest env)).any (·.1) = false := by rfl) :
    wpAny (model prog w) A (callWith pos f [] (backTo pos (starEach (e :: rest) env)) []) Q E s := by
  rw [he] at hh ⊢
  exact callWith_of (P := fun h => K.In h) (by show ((false || (backTo pos (starEach rest env)).any (·.1)) || false) = false; rw [hplain]; rfl) (keeps_K hk)
    (evalArgs_plain (wpAny_mono hh (fun vs s₁ x => ⟨x.1.inK, x.2⟩) fun _ _ x => x))
theorem cw_K0 {f : Value} {pos : Pos} {Q : Value → Shared → Prop} (hk : keepIn K f = true) (B : Bs K h0 h)
    (hh : wpAny (model prog w) A (call f []) Q E (Sh s h tk)) : wpAny (model prog w) A (callWith pos f [] (backTo pos (starEach [] env)) []) Q E (Sh s h tk) :=
  callWith_of (P := fun h => K.In h) rfl (keeps_K hk) (evalArgs_nil3 ⟨B.inK, hh⟩)

/-- an argument list -/
theorem ar_nil {pos : Pos} {Q : List Value → Shared → Prop} (hh : Q [] s) : wpAny (model prog w) A (spliced (backTo pos (starEach [] env))) Q E s := args_nil hh
theorem ar_cons {e : Expr} {rest : List Expr} {pos : Pos} {Q : List Value → Shared → Prop}
    (hh : wpAny (model prog w) A (eval e env) (fun v s₁ => wpAny (model prog w) A (spliced (backTo pos (starEach rest env))) (fun vs s₂ => Q (v :: vs) s₂) E s₁) E s)
    (he : starEach (e :: rest) env = (false, eval e env) :: starEach rest env := by rfl) : wpAny (model prog w) A (spliced (backTo pos (starEach (e :: rest) env))) Q E s := args_cons hh he

theorem se_const {c : Const} {k : Nat} {pos : Pos} {rest : List Expr} : starEach (.Constant c k pos :: rest) env = (false, eval (.Constant c k pos) env) :: starEach rest env := by rfl
theorem e_int {i : Int} {k : Nat} {pos : Pos} {Q : Value → Shared → Prop} (hQ : ∀ t tk', Q (.int i t) (Sh s h tk')) : wpAny (model prog w) A (eval (.Constant (.int i) k pos) env) Q E (Sh s h tk) := wpAny_Constant_int (hQ _ _)
theorem e_str {x : Str} {k : Nat} {pos : Pos} {Q : Value → Shared → Prop} (hQ : ∀ t tk', Q (.str x t) (Sh s h tk')) : wpAny (model prog w) A (eval (.Constant (.str x) k pos) env) Q E (Sh s h tk) := wpAny_Constant_str (hQ _ _)

/-- an item of a tuple, of a list at a known place -/
theorem sub_tp {value slice : Expr} {a : Addr} {vs : List Value} {k : Int} {u : Tok} {x : Value} {Q : Value → Shared → Prop} (T : Tp s.heap a vs) (h0 : 0 ≤ k) (hk : k < 2 ^ 62) (hx : vs[k.toNat]? = some x) (hQ : Q x s)
    (hs : subscripted slice false (.ref a) (.int k u) = operate [.ref a, .int k u] (getItem (.ref a) (.int k u)) := by with_unfolding_all rfl) :
    wpAny (model prog w) A (subscriptTail value slice (.ref a) (.int k u)) Q E s := by
  have hlt : k.toNat < vs.length := (List.getElem?_eq_some_iff.mp hx).1
  refine tail_any T.typeIs slot_tuple_getitem.lookup (getItem_tuple T.isTuple (by omega) (by omega) (j := k.toNat) ?_ (by simpa using hx) hQ) hs
  unfold seqIndex?
  simp
  omega
theorem sub_ls {value slice : Expr} {a : Addr} {vs : List Value} {k : Int} {u : Tok} {x : Value} {Q : Value → Shared → Prop} (T : Ls s.heap a vs) (h0 : 0 ≤ k) (hk : k < 2 ^ 62) (hx : vs[k.toNat]? = some x) (hQ : Q x s)
    (hs : subscripted slice false (.ref a) (.int k u) = operate [.ref a, .int k u] (getItem (.ref a) (.int k u)) := by with_unfolding_all rfl) :
    wpAny (model prog w) A (subscriptTail value slice (.ref a) (.int k u)) Q E s :=
  tail_any T.typeIs slot_list_getitem.lookup (wpAny_getItem_list T.isList h0 (by omega) (by simpa using hx) hQ) hs
theorem len_tp {a : Addr} {vs : List Value} {Q : Value → Shared → Prop} (T : Tp h a vs) (hf : vs.length < 2 ^ 62) (hQ : ∀ t tk', Q (.int vs.length t) (Sh s h tk')) :
    wpAny (model prog w) A (call (.builtin "len") [.ref a]) Q E (Sh s h tk) :=
  PyProof.Rows.len_tuple T.isTuple (by simp; omega) (by simpa using hQ _ _)
theorem len_ls {a : Addr} {vs : List Value} {Q : Value → Shared → Prop} (T : Ls h a vs) (hf : vs.length < 2 ^ 62) (hQ : ∀ t tk', Q (.int vs.length t) (Sh s h tk')) :
    wpAny (model prog w) A (call (.builtin "len") [.ref a]) Q E (Sh s h tk) :=
  PyProof.Rows.len_list T.isList (by simp; omega) (by simpa using hQ _ _)

/-- statements -/
theorem x_ret {e : Expr} {pos : Pos} {rest : List Stmt} {Q : Flow → Shared → Prop} (hh : wpAny (model prog w) A (eval e env) (fun v s' => Q (.ret v) s') E s) : wpAny (model prog w) A (execs (.Return (some e) pos :: rest) env) Q E s :=
  wpAny_execs_cons (wpAny_Return_some hh)
theorem x_set {x : Str} {p1 p2 : Pos} {e : Expr} {rest : List Stmt} {Q : Flow → Shared → Prop}
    (hh : wpAny (model prog w) A (eval e env) (fun v s₁ => wpAny (model prog w) A (storeName env x v) (fun _ s₂ => wpAny (model prog w) A (execs rest env) Q E s₂) E s₁) E s)
    (hs : swapsWith e (some (.Name x p1)) p2.line env = pure false := by rfl) : wpAny (model prog w) A (execs (.Assign [.Name x p1] e p2 :: rest) env) Q E s :=
  wpAny_execs_cons (wpAny_Assign_Name hh hs)
theorem x_if {test : Expr} {b1 b2 rest : List Stmt} {pos : Pos} {Q : Flow → Shared → Prop}
    (hh : wpAny (model prog w) A (isTrue test env (eval test env)) (fun b s₂ => if b then wpAny (model prog w) A (execs b1 env) (fun f s' => match f with | .next => wpAny (model prog w) A (execs rest env) Q E s' | f => Q f s') E s₂
      else wpAny (model prog w) A (execs b2 env) (fun f s' => match f with | .next => wpAny (model prog w) A (execs rest env) Q E s' | f => Q f s') E s₂) E s) :
    wpAny (model prog w) A (execs (.If test b1 b2 pos :: rest) env) Q E s := wpAny_execs_cons (wpAny_If hh)
end

section
variable {prog : Program} {w : World} {A : Around} {s : Shared} {env : Env}

/-- a for over any source -/
theorem for_gen {E : Value → Shared → Prop} {Q : Flow → Shared → Prop} {target : Expr} {body : List Stmt} {h : Heap} {tk : Nat} {I : Addr} {fp wr : List Addr} {n : Nat} {P : Nat → Value → Prop} {St : Nat → Heap → Prop}
    (W : Walks prog w A I fp wr n P St) (st : St 0 h) (hw : ∀ i h, St i h → ∀ b ∈ wr, ∀ vs, ¬ Tp h b vs) (J : Nat → Heap → Prop) (j0 : J 0 h)
    (jst : ∀ i h₁ h₂, J i h₁ → Kx (· ∈ wr) h₁ h₂ → J i h₂)
    (go : ∀ i v h₁ tk₁ (Q' : Unit → Shared → Prop) E', i < n → P i v → St (i + 1) h₁ → Q' () (Sh s h₁ tk₁) → wpAny (model prog w) A (letOwnedTupleGo target (.ref I) v) Q' E' (Sh s h₁ tk₁))
    (turn : ∀ i v h₁ tk₁, i < n → P i v → J i h₁ → wpAny (model prog w) A (assign target env v) (fun _ s₂ => wpAny (model prog w) A (execs body env) (fun f s₃ => match f with
        | .next | .cont => ∃ h' tk', s₃ = Sh s h' tk' ∧ (∀ b ∈ fp, ∀ o, h₁.get? b = some o → h'.get? b = some o) ∧ J (i + 1) h'
        | .brk => Q .next s₃
        | .ret v => Q (.ret v) s₃) E s₂) E (Sh s h₁ tk₁))
    (done : ∀ h' tk', J n h' → Q .next (Sh s h' tk')) (hE : PassesOwn (model prog w) A env E := by passes_own) :
    codeAny (model prog w) A (.forLoop target (.ref I) body [] env) (fun r s' => match r with | .ok f => Q f s' | .error e => cameBackBy (model prog w) A env E e s') (Sh s h tk) := by
  refine codeAny_forLoop_any (fun k s' => ∃ i h' tk', s' = Sh s h' tk' ∧ i ≤ n ∧ k = n + 1 - i ∧ St i h' ∧ J i h') ?_ (n + 1) ⟨0, h, tk, rfl, Nat.zero_le _, rfl, st, j0⟩
  rintro k s' ⟨i, h', tk', rfl, hi, rfl, st', j'⟩
  by_cases hlt : i < n
  · refine W.item i _ _ _ hlt st' fun v h₁ tk₁ hP st₁ hk₁ => ?_
    have k₁ : Kx (· ∈ wr) h' h₁ := Kx.but hk₁ fun b vs hb => hw i h' st' b hb vs
    refine go i v h₁ tk₁ _ _ hlt hP st₁ ?_
    refine wpAny_passesOwn hE (wpAny_mono (turn i v h₁ tk₁ hlt hP (jst _ _ _ j' k₁)) (fun _ s₂ x => wpAny_passesOwn hE (wpAny_mono x (fun f s₃ y => ?_) fun _ _ z => z)) fun _ _ z => z)
    cases f with
    | next => obtain ⟨h₃, tk₃, rfl, hf, j₃⟩ := y; exact ⟨_, by omega, i + 1, h₃, tk₃, rfl, hlt, rfl, W.frame _ _ _ st₁ hf, j₃⟩
    | cont => obtain ⟨h₃, tk₃, rfl, hf, j₃⟩ := y; exact ⟨_, by omega, i + 1, h₃, tk₃, rfl, hlt, rfl, W.frame _ _ _ st₁ hf, j₃⟩
    | brk => exact y
    | ret v => exact y
  · obtain rfl : i = n := by omega
    refine W.done _ _ _ st' fun h₁ tk₁ hk₁ => wpAny_execs_nil (done h₁ tk₁ (jst _ _ _ j' (Kx.but hk₁ fun b vs hb => hw i h' st' b hb vs)))

def TgOk (target : Expr) (vs : List Value) : Prop := (∃ x p, target = .Name x p) ∨ ((∃ e k p, target = .Tuple e k p) ∧ ∀ v ∈ vs, ∃ T, v = .ref T)
theorem TgOk.name {x : Str} {p : Pos} {vs : List Value} : TgOk (.Name x p) vs := .inl ⟨x, p, rfl⟩
theorem go_ls {target : Expr} {vs : List Value} {E : Value → Shared → Prop} {I a : Addr} {i : Nat} {v : Value} {Q : Unit → Shared → Prop} (T : TgOk target vs) (hv : v ∈ vs) (hit : s.heap.IsListIter I a i) (hQ : Q () s) :
    wpAny (model prog w) A (letOwnedTupleGo target (.ref I) v) Q E s := by
  rcases T with ⟨x, p, rfl⟩ | ⟨⟨e, k, p, rfl⟩, h⟩
  · exact wpAny_of_eq (by rfl) hQ
  · obtain ⟨T, rfl⟩ := h v hv; exact wpAny_letOwnedTupleGo_listiter hit hQ

section
variable {E : Value → Shared → Prop} {h : Heap} {tk : Nat}
theorem not_tp_of_listiter {h : Heap} {I a : Addr} {i : Nat} (x : h.IsListIter I a i) : ∀ vs, ¬ Tp h I vs := by
  obtain ⟨o, ho, hc, _⟩ := x; exact not_tp_of_cls ho (by rw [hc]; decide)
theorem not_tp_of_tupleiter {h : Heap} {I a : Addr} {i : Nat} (x : h.IsTupleIter I a i) : ∀ vs, ¬ Tp h I vs := by
  obtain ⟨o, ho, hc, _⟩ := x; exact not_tp_of_cls ho (by rw [hc]; decide)
theorem not_tp_of_rangeiter {h : Heap} {I : Addr} {a b c : Int} (x : IsRangeIter h I a b c) : ∀ vs, ¬ Tp h I vs := by
  exact not_tp_of_cls x (by show Value.type "range_iterator" ≠ Value.type "tuple"; decide)
theorem not_tp_of_striter {h : Heap} {I : Addr} {k : String} {x : Str} {t : Tok} {i : Nat} (hk : k ≠ "tuple") (y : h.IsStrIter I k x t i) : ∀ vs, ¬ Tp h I vs := by
  obtain ⟨o, ho, hc, _⟩ := y
  exact not_tp_of_cls ho (by rw [hc]; intro e; cases e; exact hk rfl)

theorem x_for {target iter : Expr} {body rest : List Stmt} {pos : Pos} {Q : Flow → Shared → Prop}
    (hh : wpAny (model prog w) A (eval iter env) (fun x s₁ => wpAny (model prog w) A (pyIter x) (fun it s₂ =>
      codeAny (model prog w) A (.forLoop target it body [] env) (fun r s' => match r with
        | .ok f => (match f with | .next => wpAny (model prog w) A (execs rest env) Q E s' | f => Q f s')
        | .error e => cameBackBy (model prog w) A env E e s') s₂) E s₁) E s)
    (hs : ∀ x, foldedSetIterable iter env x = pure x := by intro _; rfl) : wpAny (model prog w) A (execs (.For target iter body [] pos :: rest) env) Q E s :=
  wpAny_execs_cons (wpAny_For hh hs)

/-- a for over a list -/
theorem for_ls {Q : Flow → Shared → Prop} {target : Expr} {body : List Stmt} {a : Addr} {vs : List Value} (hh : A.handled = none) (T : Ls h a vs) (tg : TgOk target vs) (M : Addr → Prop) (hM : ∀ b, M b → b < h.objs.size ∧ b ≠ a)
    (J : Nat → Heap → Prop) (j0 : J 0 h) (jst : ∀ i h₁ h₂, J i h₁ → Kx (· = h.objs.size) h₁ h₂ → J i h₂)
    (turn : ∀ i v h₁ tk₁, vs[i]? = some v → J i h₁ → wpAny (model prog w) A (assign target env v) (fun _ s₂ => wpAny (model prog w) A (execs body env) (fun f s₃ => match f with
        | .next | .cont => ∃ h' tk', s₃ = Sh s h' tk' ∧ Kx M h₁ h' ∧ J (i + 1) h'
        | .brk => Q .next s₃
        | .ret v => Q (.ret v) s₃) E s₂) E (Sh s h₁ tk₁))
    (done : ∀ h' tk', J vs.length h' → Q .next (Sh s h' tk')) (hE : PassesOwn (model prog w) A env E := by passes_own) :
    wpAny (model prog w) A (pyIter (.ref a)) (fun it s₂ => codeAny (model prog w) A (.forLoop target it body [] env) (fun r s' => match r with | .ok f => Q f s' | .error e => cameBackBy (model prog w) A env E e s') s₂) E (Sh s h tk) := by
  have hne : a ≠ h.objs.size := Nat.ne_of_lt T.lt
  refine wpAny_pyIter_list T.isList ?_
  have k0 : Kx (· = h.objs.size) h (h.push { cls := .type "list_iterator", data := .fields #[.ref a, .int 0 0] }) := (Kx.push _ _).ofNon
  refine for_gen (E := E) (s := s) (Q := Q) (Walks.list (prog := prog) (w := w) (A := A) hh h.objs.size a hne vs.toArray) ⟨⟨_, Heap.get?_push_size _ rfl, rfl, rfl⟩, T.isList.push _⟩
    (fun i h' st b hb vs' => ?_) J (jst _ _ _ j0 k0) (fun i h₁ h₂ j k => jst i h₁ h₂ j (k.mono fun b hb => by simpa using hb)) (fun i v h₁ tk₁ Q' E' hi hP st hQ => ?_) (fun i v h₁ tk₁ hi hP j => ?_) (by simpa using done) hE
  · rw [List.mem_singleton.mp hb]; exact not_tp_of_listiter st.1 vs'
  · exact go_ls (s := Sh s h₁ tk₁) tg (by simpa using List.mem_of_getElem? (by simpa using hP)) st.1 hQ
  · refine wpAny_mono (turn i v h₁ tk₁ (by simpa using hP) j) (fun _ s₂ x => wpAny_mono x (fun f s₃ y => ?_) fun _ _ z => z) fun _ _ z => z
    have conv : (∃ h' tk', s₃ = Sh s h' tk' ∧ Kx M h₁ h' ∧ J (i + 1) h') → ∃ h' tk', s₃ = Sh s h' tk' ∧ (∀ b ∈ [h.objs.size, a], ∀ o, h₁.get? b = some o → h'.get? b = some o) ∧ J (i + 1) h' := by
      rintro ⟨h', tk', e, k, j'⟩
      refine ⟨h', tk', e, fun b hb o eo => k.k b o (fun hm => ?_) eo, j'⟩
      have := hM b hm
      simp only [List.mem_cons, List.not_mem_nil, or_false] at hb
      rcases hb with rfl | rfl
      · exact Nat.lt_irrefl _ this.1
      · exact this.2 rfl
    cases f with
    | next => exact conv y
    | cont => exact conv y
    | brk => exact y
    | ret v => exact y

/-- a for over a tuple, by one name -/
theorem for_tp {Q : Flow → Shared → Prop} {x : Str} {px : Pos} {body : List Stmt} {a : Addr} {vs : List Value} (hh : A.handled = none) (T : Tp h a vs) (M : Addr → Prop) (hM : ∀ b, M b → b < h.objs.size ∧ b ≠ a)
    (J : Nat → Heap → Prop) (j0 : J 0 h) (jst : ∀ i h₁ h₂, J i h₁ → Kx (· = h.objs.size) h₁ h₂ → J i h₂)
    (turn : ∀ i v h₁ tk₁, vs[i]? = some v → J i h₁ → wpAny (model prog w) A (assign (.Name x px) env v) (fun _ s₂ => wpAny (model prog w) A (execs body env) (fun f s₃ => match f with
        | .next | .cont => ∃ h' tk', s₃ = Sh s h' tk' ∧ Kx M h₁ h' ∧ J (i + 1) h'
        | .brk => Q .next s₃
        | .ret v => Q (.ret v) s₃) E s₂) E (Sh s h₁ tk₁))
    (done : ∀ h' tk', J vs.length h' → Q .next (Sh s h' tk')) (hE : PassesOwn (model prog w) A env E := by passes_own) :
    wpAny (model prog w) A (pyIter (.ref a)) (fun it s₂ => codeAny (model prog w) A (.forLoop (.Name x px) it body [] env) (fun r s' => match r with | .ok f => Q f s' | .error e => cameBackBy (model prog w) A env E e s') s₂) E (Sh s h tk) := by
  have hne : a ≠ h.objs.size := Nat.ne_of_lt T.lt
  refine PySem.wpAny_pyIter_tuple T.isTuple ?_
  have k0 : Kx (· = h.objs.size) h (h.push { cls := .type "tuple_iterator", data := .fields #[.ref a, .int 0 0] }) := (Kx.push _ _).ofNon
  refine for_gen (E := E) (s := s) (Q := Q) (Walks.tuple (prog := prog) (w := w) (A := A) hh h.objs.size a hne vs.toArray) ⟨⟨_, Heap.get?_push_size _ rfl, rfl, rfl⟩, T.isTuple.push _⟩
    (fun i h' st b hb vs' => ?_) J (jst _ _ _ j0 k0) (fun i h₁ h₂ j k => jst i h₁ h₂ j (k.mono fun b hb => by simpa using hb)) (fun i v h₁ tk₁ Q' E' hi hP st hQ => wpAny_of_eq (by rfl) hQ) (fun i v h₁ tk₁ hi hP j => ?_) (by simpa using done) hE
  · rw [List.mem_singleton.mp hb]; exact not_tp_of_tupleiter st.1 vs'
  · refine wpAny_mono (turn i v h₁ tk₁ (by simpa using hP) j) (fun _ s₂ x => wpAny_mono x (fun f s₃ y => ?_) fun _ _ z => z) fun _ _ z => z
    have conv : (∃ h' tk', s₃ = Sh s h' tk' ∧ Kx M h₁ h' ∧ J (i + 1) h') → ∃ h' tk', s₃ = Sh s h' tk' ∧ (∀ b ∈ [h.objs.size, a], ∀ o, h₁.get? b = some o → h'.get? b = some o) ∧ J (i + 1) h' := by
      rintro ⟨h', tk', e, k, j'⟩
      refine ⟨h', tk', e, fun b hb o eo => k.k b o (fun hm => ?_) eo, j'⟩
      have := hM b hm
      simp only [List.mem_cons, List.not_mem_nil, or_false] at hb
      rcases hb with rfl | rfl
      · exact Nat.lt_irrefl _ this.1
      · exact this.2 rfl
    cases f with
    | next => exact conv y
    | cont => exact conv y
    | brk => exact y
    | ret v => exact y

/-- a for over a text's signs -/
theorem for_str {Q : Flow → Shared → Prop} {x : Str} {px : Pos} {body : List Stmt} {txt : Str} {t : Tok} (hh : A.handled = none) (M : Addr → Prop) (hM : ∀ b, M b → b < h.objs.size)
    (J : Nat → Heap → Prop) (j0 : J 0 h) (jst : ∀ i h₁ h₂, J i h₁ → Kx (· = h.objs.size) h₁ h₂ → J i h₂)
    (turn : ∀ i c u h₁ tk₁, txt.cps[i]? = some c → J i h₁ → wpAny (model prog w) A (assign (.Name x px) env (.str ⟨#[c]⟩ u)) (fun _ s₂ => wpAny (model prog w) A (execs body env) (fun f s₃ => match f with
        | .next | .cont => ∃ h' tk', s₃ = Sh s h' tk' ∧ Kx M h₁ h' ∧ J (i + 1) h'
        | .brk => Q .next s₃
        | .ret v => Q (.ret v) s₃) E s₂) E (Sh s h₁ tk₁))
    (done : ∀ h' tk', J txt.cps.size h' → Q .next (Sh s h' tk')) (hE : PassesOwn (model prog w) A env E := by passes_own) :
    wpAny (model prog w) A (pyIter (.str txt t)) (fun it s₂ => codeAny (model prog w) A (.forLoop (.Name x px) it body [] env) (fun r s' => match r with | .ok f => Q f s' | .error e => cameBackBy (model prog w) A env E e s') s₂) E (Sh s h tk) := by
  have main : ∀ (o : Obj) (St : Nat → Heap → Prop), Walks prog w A h.objs.size [h.objs.size] [h.objs.size] txt.cps.size (SignAt txt) St → (∀ i h', St i h' → ∀ vs, ¬ Tp h' h.objs.size vs) → St 0 (h.push o) →
      codeAny (model prog w) A (.forLoop (.Name x px) (.ref h.objs.size) body [] env) (fun r s' => match r with | .ok f => Q f s' | .error e => cameBackBy (model prog w) A env E e s') (Sh s (h.push o) tk) := by
    intro o St W hw st
    have k0 : Kx (· = h.objs.size) h (h.push o) := (Kx.push _ _).ofNon
    refine for_gen (E := E) (s := s) (Q := Q) W st (fun i h' st' b hb vs' => ?_) J (jst _ _ _ j0 k0) (fun i h₁ h₂ j k => jst i h₁ h₂ j (k.mono fun b hb => by simpa using hb)) (fun i v h₁ tk₁ Q' E' hi hP st hQ => wpAny_of_eq (by rfl) hQ) (fun i v h₁ tk₁ hi hP j => ?_) done hE
    · rw [List.mem_singleton.mp hb]; exact hw i h' st' vs'
    · obtain ⟨c, u, hc, rfl⟩ := hP
      refine wpAny_mono (turn i c u h₁ tk₁ hc j) (fun _ s₂ x => wpAny_mono x (fun f s₃ y => ?_) fun _ _ z => z) fun _ _ z => z
      have conv : (∃ h' tk', s₃ = Sh s h' tk' ∧ Kx M h₁ h' ∧ J (i + 1) h') → ∃ h' tk', s₃ = Sh s h' tk' ∧ (∀ b ∈ [h.objs.size], ∀ o, h₁.get? b = some o → h'.get? b = some o) ∧ J (i + 1) h' := by
        rintro ⟨h', tk', e, k, j'⟩
        refine ⟨h', tk', e, fun b hb o eo => k.k b o (fun hm => ?_) eo, j'⟩
        have := hM b hm
        rw [List.mem_singleton.mp hb] at this
        exact Nat.lt_irrefl _ this
      cases f with
      | next => exact conv y
      | cont => exact conv y
      | brk => exact y
      | ret v => exact y
  cases ha : txt.cps.all (· < 128)
  · exact wpAny_pyIter_wide ha (main _ _ (Walks.strWide hh _ txt t) (fun i h' st => not_tp_of_striter (by decide) st) ⟨_, Heap.get?_push_size _ rfl, rfl, rfl⟩)
  · exact wpAny_pyIter_ascii ha (main _ _ (Walks.strAscii hh _ txt t) (fun i h' st => not_tp_of_striter (by decide) st) ⟨_, Heap.get?_push_size _ rfl, rfl, rfl⟩)

/-- targets -/
theorem as_L {x : Str} {p : Pos} {v : Value} {m cm : Str → Option Value} {Q : Unit → Shared → Prop} (F : Fx env m cm h)
    (hQ : ∀ h' tk', Fx env (fun y => if y = x then some v else m y) cm h' → Kx (· = env.locals) h h' → Q () (Sh s h' tk'))
    (hk : env.scope.kind = .function := by rfl) (hx : env.kindOf x = some .local := by rfl) : wpAny (model prog w) A (assign (.Name x p) env v) Q E (Sh s h tk) := wpAny_assign_Name (st_L F hQ hk hx)
theorem as_C {x : Str} {p : Pos} {v : Value} {c : Addr} {m cm : Str → Option Value} {Q : Unit → Shared → Prop} (F : Fx env m cm h)
    (hQ : ∀ h' tk', Fx env m (fun y => if y = x then some v else cm y) h' → Kx (· = c) h h' → Q () (Sh s h' tk'))
    (hc : env.cells.lookup x = some c := by rfl) (hk : env.scope.kind = .function := by rfl) (hx : env.kindOf x = some .cell := by rfl) : wpAny (model prog w) A (assign (.Name x p) env v) Q E (Sh s h tk) := wpAny_assign_Name (st_C F hQ hc hk hx)
theorem as_T2 {e1 e2 : Expr} {k : Nat} {p : Pos} {a : Addr} {u v : Value} {Q : Unit → Shared → Prop} (hh : A.handled = none) (T : Tp h a [u, v])
    (hQ : ∀ h', Kx Non h h' → wpAny (model prog w) A (assign e1 env u) (fun _ s₁ => wpAny (model prog w) A (assign e2 env v) Q E s₁) E (Sh s h' tk))
    (he : assignEach [e1, e2] env = [(false, assign e1 env), (false, assign e2 env)] := by rfl) : wpAny (model prog w) A (assign (.Tuple [e1, e2] k p) env (.ref a)) Q E (Sh s h tk) := by
  refine wpAny_assign_Tuple hh T.isTuple (by rw [he]; rfl) (by rw [he]; rfl) fun h' hx => ?_
  rw [he]
  have k' : Kx Non h h' := .ofAll fun b o e => hx b o (Nat.ne_of_lt (Heap.lt_size e)) e
  refine wpAny_assignInOrder_more (wpAny_mono (hQ h' k') (fun _ s₁ x => ?_) fun _ _ z => z)
  exact wpAny_assignInOrder_more (wpAny_mono x (fun _ s₂ y => wpAny_assignInOrder_none y) fun _ _ z => z)

/-- a for over range(k), k a small int -/
theorem for_rg {Q : Flow → Shared → Prop} {x : Str} {px : Pos} {body : List Stmt} {r : Addr} {k : Nat} {t u v : Tok} (hh : A.handled = none) (T : IsRange h r 0 k 1 t u v) (hk : k < 2 ^ 60) (M : Addr → Prop) (hM : ∀ b, M b → b < h.objs.size)
    (J : Nat → Heap → Prop) (j0 : J 0 h) (jst : ∀ i h₁ h₂, J i h₁ → Kx (· = h.objs.size) h₁ h₂ → J i h₂)
    (turn : ∀ i t h₁ tk₁, i < k → J i h₁ → wpAny (model prog w) A (assign (.Name x px) env (.int i t)) (fun _ s₂ => wpAny (model prog w) A (execs body env) (fun f s₃ => match f with
        | .next | .cont => ∃ h' tk', s₃ = Sh s h' tk' ∧ Kx M h₁ h' ∧ J (i + 1) h'
        | .brk => Q .next s₃
        | .ret v => Q (.ret v) s₃) E s₂) E (Sh s h₁ tk₁))
    (done : ∀ h' tk', J k h' → Q .next (Sh s h' tk')) (hE : PassesOwn (model prog w) A env E := by passes_own) :
    wpAny (model prog w) A (pyIter (.ref r)) (fun it s₂ => codeAny (model prog w) A (.forLoop (.Name x px) it body [] env) (fun r s' => match r with | .ok f => Q f s' | .error e => cameBackBy (model prog w) A env E e s') s₂) E (Sh s h tk) := by
  have hsz : Builtin.Range.rangeSize 0 k 1 = (k : Int) := by unfold Builtin.Range.rangeSize; simp; omega
  have hsm : Builtin.Range.small 0 k 1 = true := by
    unfold Builtin.Range.small Builtin.Range.rangeFitsLong; rw [hsz]; simp; omega
  refine wpAny_pyIter_range T hsm ?_
  rw [hsz]
  have k0 : ∀ o, Kx (· = h.objs.size) h (h.push o) := fun o => (Kx.push _ _).ofNon
  refine for_gen (E := E) (s := s) (Q := Q) (Walks.range (prog := prog) (w := w) (A := A) hh h.objs.size 0 1 k) (by have e := Heap.get?_push_size h (o := { cls := .type "range_iterator", data := .fields #[rawInt 0, rawInt (k : Int), rawInt 1] }) rfl; simpa [IsRangeIter] using e)
    (fun i h' st b hb vs' => ?_) J (jst _ _ _ j0 (k0 _)) (fun i h₁ h₂ j k => jst i h₁ h₂ j (k.mono fun b hb => by simpa using hb)) (fun i v h₁ tk₁ Q' E' hi hP st hQ => wpAny_of_eq (by rfl) hQ) (fun i v h₁ tk₁ hi hP j => ?_) done hE
  · rw [List.mem_singleton.mp hb]; exact not_tp_of_rangeiter st vs'
  · obtain ⟨t', rfl⟩ := hP
    have e : (0 : Int) + (i : Int) * 1 = i := by omega
    rw [e]
    refine wpAny_mono (turn i t' h₁ tk₁ hi j) (fun _ s₂ x => wpAny_mono x (fun f s₃ y => ?_) fun _ _ z => z) fun _ _ z => z
    have conv : (∃ h' tk', s₃ = Sh s h' tk' ∧ Kx M h₁ h' ∧ J (i + 1) h') → ∃ h' tk', s₃ = Sh s h' tk' ∧ (∀ b ∈ [h.objs.size], ∀ o, h₁.get? b = some o → h'.get? b = some o) ∧ J (i + 1) h' := by
      rintro ⟨h', tk', e, k, j'⟩
      refine ⟨h', tk', e, fun b hb o eo => k.k b o (fun hm => ?_) eo, j'⟩
      have := hM b hm
      rw [List.mem_singleton.mp hb] at this
      exact Nat.lt_irrefl _ this
    cases f with
    | next => exact conv y
    | cont => exact conv y
    | brk => exact y
    | ret v => exact y

/-- a while by a measure -/
theorem x_while {test : Expr} {body rest : List Stmt} {pos : Pos} {Q : Flow → Shared → Prop} (J : Nat → Heap → Prop) (n : Nat) (j0 : J n h)
    (turn : ∀ n h₁ tk₁, J n h₁ → wpAny (model prog w) A (isTrue test env (eval test env)) (fun b s₂ => if b = true then wpAny (model prog w) A (execs body env) (fun f s₃ => match f with
        | .next | .cont => ∃ h' tk' m, s₃ = Sh s h' tk' ∧ m < n ∧ J m h'
        | .brk => wpAny (model prog w) A (execs rest env) Q E s₃
        | .ret v => Q (.ret v) s₃) E s₂ else wpAny (model prog w) A (execs rest env) Q E s₂) E (Sh s h₁ tk₁))
    (hE : PassesOwn (model prog w) A env E := by passes_own) :
    wpAny (model prog w) A (execs (.While test body [] pos :: rest) env) Q E (Sh s h tk) := by
  refine wpAny_execs_cons (wpAny_While (codeAny_whileLoop (fun n s' => ∃ h' tk', s' = Sh s h' tk' ∧ J n h') ?_ n ⟨h, tk, rfl, j0⟩))
  rintro n s' ⟨h', tk', rfl, j⟩
  refine wpAny_passesOwn hE (wpAny_mono (turn n h' tk' j) (fun b s₂ x => ?_) fun _ _ z => z)
  cases b with
  | true =>
    simp only [if_true] at x ⊢
    refine wpAny_passesOwn hE (wpAny_mono x (fun f s₃ y => ?_) fun _ _ z => z)
    cases f with
    | next => obtain ⟨h₃, tk₃, m, rfl, hm, j₃⟩ := y; exact ⟨m, hm, h₃, tk₃, rfl, j₃⟩
    | cont => obtain ⟨h₃, tk₃, m, rfl, hm, j₃⟩ := y; exact ⟨m, hm, h₃, tk₃, rfl, j₃⟩
    | brk => exact y
    | ret v => exact y
  | false =>
    simp only [Bool.false_eq_true, if_false] at x ⊢
    exact wpAny_execs_nil x
end

/-- a comprehension of one clause, any source -/
structure CompAt (prog : Program) (w : World) (A : Around) (env : Env) (scope : Scope) (cl : List (Str × Addr)) (target : Expr) (ifs : List Expr) (elt : Expr) (s : Shared) (Q : Value → Shared → Prop) (it : Value) (s₂ : Shared) : Prop where
  ex : ∃ (hb h : Heap) (tk : Nat) (I : Addr) (fp wr : List Addr) (n : Nat) (P : Nat → Value → Prop) (St : Nat → Heap → Prop) (M : Addr → Prop) (J : Nat → List Value → Heap → Prop), it = .ref I ∧ s₂ = Sh s h tk ∧ Walks prog w A I fp wr n P St ∧ St 0 h ∧ Kx Non hb h ∧ (∀ b ∈ wr, hb.get? b = none) ∧
    (∀ i h, St i h → ∀ b ∈ wr, ∀ vs, ¬ Tp h b vs) ∧ (∀ b ∈ fp, b < h.objs.size) ∧ (∀ b, M b → b ∉ fp ∧ b < h.objs.size) ∧ n ≤ sizeLine ∧ J 0 [] h ∧
    (∀ i ys h₁ h₂, J i ys h₁ → Kx (fun b => b ∈ wr ∨ b = h.objs.size ∨ b = h.objs.size + 1) h₁ h₂ → J i ys h₂) ∧
    (∀ i v h₁ tk₁ (Q' : Unit → Shared → Prop) E', i < n → P i v → St (i + 1) h₁ → Q' () (Sh s h₁ tk₁) → wpAny (model prog w) A (letOwnedTupleGo target (.ref I) v) Q' E' (Sh s h₁ tk₁)) ∧
    (∀ i v ys h₁ tk₁ m, i < n → P i v → J i ys h₁ → h₁.Ns (h.objs.size + 1) m → wpAny (model prog w) A (assign target (compEnvC scope cl (h.objs.size + 1) env) v) (fun _ s₂ =>
      wpAny (model prog w) A (forIn ifs true fun c r => if r = true then do let ok ← isTrue c (compEnvC scope cl (h.objs.size + 1) env) (eval c (compEnvC scope cl (h.objs.size + 1) env)); pure (ForInStep.yield ok) else pure (ForInStep.yield r)) (fun ok s₃ =>
        if ok = true then wpAny (model prog w) A (eval elt (compEnvC scope cl (h.objs.size + 1) env)) (fun y s₄ => ∃ h' tk' m', s₄ = Sh s h' tk' ∧ h'.Ns (h.objs.size + 1) m' ∧ Kx (fun b => M b ∨ b = h.objs.size + 1) h₁ h' ∧ J (i + 1) (ys ++ [y]) h') NE s₃
        else ∃ h' tk' m', s₃ = Sh s h' tk' ∧ h'.Ns (h.objs.size + 1) m' ∧ Kx (fun b => M b ∨ b = h.objs.size + 1) h₁ h' ∧ J (i + 1) ys h') NE s₂) NE (Sh s h₁ tk₁)) ∧
    (∀ ys h' tk' D, hb.get? D = none → J n ys h' → Ls h' D ys → Kx M hb h' → Q (.ref D) (Sh s h' tk'))

theorem comp_W {E : Value → Shared → Prop} {st : Shared} {s : Shared} {elt target iter : Expr} {ifs : List Expr} {scope : Scope} {cl : List (Str × Addr)} {pos : Pos} {Q : Value → Shared → Prop} (hclos : closureFor scope env = pure cl)
    (hcell : ∀ y ∈ scope.names, y.2 ≠ .cell) (hnames : ∀ y ∈ scope.names, y.2 = .local → scope.names.lookup y.1 = some .local)
    (h : wpAny (model prog w) A (eval iter env) (fun xv s₁ => wpAny (model prog w) A (pyIter xv) (fun it s₂ => CompAt prog w A env scope cl target ifs elt s Q it s₂) E s₁) E st)
    (hs : ∀ x, foldedSetIterable iter env x = pure x := by intro _; rfl) (hkind : scope.kind = .function := by rfl) :
    wpAny (model prog w) A (eval (.ListComp elt [⟨target, iter, ifs, 0⟩] scope pos) env) Q E st := by
  rw [eval_ListComp]
  refine wpAny_comprehension_free (use := none) rfl hs hclos hkind hnames (wpAny_mono h (fun xv s₁ h₁ => wpAny_mono h₁ (fun it s₂ h₂ => ?_) fun _ _ e => e) fun _ _ e => e)
  obtain ⟨HB, H, tk, I, fp, wr, n, P, St, M, J, rfl, rfl, W, hst, kB, hwB, hw, hfp, hM, hsz, j0, jst, go, turn, done⟩ := h₂.ex
  refine wpAny_newObj_type (wpAny_newFunctionEnv hcell (by intro y hy; simp at hy) (fun h₁ hns₁ hsb₁ => ?_) hkind)
  dsimp only at hns₁ hsb₁ ⊢
  rw [Heap.size_push] at hns₁ hsb₁ ⊢
  have new : ∀ b o, H.get? b = some o → b ≠ H.objs.size ∧ b ≠ H.objs.size + 1 := fun b o e => ⟨Nat.ne_of_lt (Heap.lt_size e), Nat.ne_of_lt (Nat.lt_succ_of_lt (Heap.lt_size e))⟩
  have newB : ∀ b, H.objs.size ≤ b → HB.get? b = none := fun b hb => by
    cases e : HB.get? b with
    | none => rfl
    | some o => exact absurd (Heap.lt_size (kB.all b o e)) (Nat.not_lt.mpr hb)
  have old : ∀ b o, H.get? b = some o → h₁.get? b = some o := fun b o e => hsb₁.extBut b o (new b o e).2 (Heap.get?_push_of_some _ (Heap.get?_push_of_some _ e))
  have kx0 : Kx Non H h₁ := .ofAll old
  have hacc : Ls h₁ H.objs.size [] := ⟨0, hsb₁.extBut _ _ (Nat.ne_of_lt (Nat.lt_succ_self _)) (Heap.get?_push_of_some _ (Heap.get?_push_size _ rfl))⟩
  have hst₁ : St 0 h₁ := W.frame _ _ _ hst fun b _ o e => old b o e
  have cond : ∀ s₃ : Shared, s₃ = Sh s h₁ tk → codeAny (model prog w) A (.compLoop (.ListComp elt [⟨target, iter, ifs, 0⟩] scope pos) 0 (.ref I) (.ref H.objs.size) (compEnvC scope cl (H.objs.size + 1) env))
      (compPost (model prog w) A E none Q (.ref H.objs.size) (H.objs.size + 1)) s₃ := by
    rintro s₃ rfl
    refine codeAny_loop rfl (fun k s' => ∃ i h' tk' m ys, s' = Sh s h' tk' ∧ i ≤ n ∧ k = n + 1 - i ∧ St i h' ∧ J i ys h' ∧ Ls h' H.objs.size ys ∧ h'.Ns (H.objs.size + 1) m ∧ Kx M HB h' ∧ ys.length ≤ i) ?_ (n + 1)
      ⟨0, h₁, tk, _, [], rfl, Nat.zero_le _, rfl, hst₁, jst 0 [] _ _ j0 kx0.ofNon, hacc, hns₁, (kB.trans kx0).ofNon, Nat.le_refl _⟩
    rintro k s' ⟨i, h', tk', m, ys, rfl, hi, rfl, st', j', acc', ns', kx', hyl⟩
    show wpAny _ A ((compTurn (.ListComp elt [⟨target, iter, ifs, 0⟩] scope pos) 0 (.ref I) (.ref H.objs.size) (compEnvC scope cl (H.objs.size + 1) env)).onRaise (fun x => do noteFrame x (compEnvC scope cl (H.objs.size + 1) env); theTreesLotGoes x)) _ _ _
    refine wpAny_noted ?_
    rw [compTurn_list]
    have wrlt : ∀ b ∈ wr, @LT.lt Nat _ b H.objs.size := fun b hb => hfp b (W.sub b hb)
    refine wpAny_bind (wpAny_standAt ?_)
    by_cases hlt : i < n
    · refine wpAny_bind (W.item i _ _ _ hlt st' fun v h₂ tk₂ hP st₂ hk₂ => ?_)
      have k₂ : Kx (· ∈ wr) h' h₂ := Kx.but hk₂ fun b vs hb => hw i h' st' b hb vs
      have j₂ := jst _ _ _ _ j' (k₂.mono fun b hb => .inl hb)
      have acc₂ : Ls h₂ H.objs.size ys := acc'.kx k₂ fun hb => Nat.lt_irrefl _ (wrlt _ hb)
      have ns₂ := Ns.kx ns' k₂ fun hb => by have := wrlt _ hb; omega
      refine wpAny_bind (go i v h₂ tk₂ _ _ hlt hP st₂ ?_)
      refine wpAny_bind (wpAny_mono (turn i v ys h₂ tk₂ m hlt hP j₂ ns₂) (fun _ s₃ x => ?_) fun _ _ z => z.elim)
      refine wpAny_bind (wpAny_mono x (fun ok s₄ y => ?_) fun _ _ z => z.elim)
      -- the store's own address, as the step sees it
      have fin : ∀ (h₅ : Heap), Kx (fun b => M b ∨ b = H.objs.size + 1) h₂ h₅ → St (i + 1) h₅ ∧ Ls h₅ H.objs.size ys ∧ Kx M HB h₅ := by
        intro h₅ k₅
        refine ⟨W.frame _ _ _ st₂ fun b hb o e => k₅.k b o (fun hm => ?_) e, acc₂.kx k₅ fun hm => ?_, ?_⟩
        · rcases hm with hm | hm
          · exact (hM b hm).1 hb
          · exact absurd (hfp b hb) (hm ▸ Nat.not_lt.mpr (Nat.le_succ _))
        · rcases hm with hm | hm
          · exact Nat.lt_irrefl _ (hM _ hm).2
          · exact absurd hm (Nat.ne_of_lt (Nat.lt_succ_self _))
        · refine ((kx'.mono (Q := fun b => M b ∨ b ∈ wr ∨ b = H.objs.size + 1) fun b hb => .inl hb).trans ((k₂.mono (Q := fun b => M b ∨ b ∈ wr ∨ b = H.objs.size + 1) fun b hb => .inr (.inl hb)).trans (k₅.mono fun b hb => hb.elim .inl fun hb => .inr (.inr hb)))).fresh fun b hb => ?_
          rcases hb with hb | hb | hb
          · exact .inl hb
          · exact .inr (hwB b hb)
          · exact .inr (newB b (hb ▸ Nat.le_succ _))
      cases ok with
      | false =>
        simp only [Bool.false_eq_true, if_false] at y ⊢
        obtain ⟨h₅, tk₅, m₅, rfl, ns₅, k₅, j₅⟩ := y
        obtain ⟨a1, a2, a3⟩ := fin h₅ k₅
        exact wpAny_pure ⟨rfl, n + 1 - (i + 1), by omega, i + 1, h₅, tk₅, m₅, ys, rfl, hlt, rfl, a1, j₅, a2, ns₅, a3, Nat.le_succ_of_le hyl⟩
      | true =>
        simp only [if_true] at y ⊢
        refine wpAny_bind (wpAny_bind (wpAny_mono y (fun yv s₅ z => ?_) fun _ _ z => z.elim))
        obtain ⟨h₅, tk₅, m₅, rfl, ns₅, k₅, j₅⟩ := z
        obtain ⟨a1, a2, a3⟩ := fin h₅ k₅
        refine wpAny_bind (wpAny_list_append_plain a2.plain (fun h₆ hl₆ hs₆ => ?_) (by simp; omega))
        have k₆ : Kx (· = H.objs.size) h₅ h₆ := Kx.same hs₆ (not_tp_of_ls a2)
        refine wpAny_pure (wpAny_pure ⟨rfl, n + 1 - (i + 1), by omega, i + 1, h₆, tk₅, m₅, ys ++ [yv], rfl, hlt, rfl, ?_, jst _ _ _ _ j₅ (k₆.mono fun b hb => .inr (.inl hb)), ?_, Ns.kx ns₅ k₆ (Nat.ne_of_gt (Nat.lt_succ_self _)), ?_, by simp; omega⟩)
        · exact W.frame _ _ _ a1 fun b hb o e => k₆.k b o (fun hm => absurd (hfp b hb) (hm ▸ Nat.lt_irrefl _)) e
        · have := Ls.ofPlain hl₆; simpa using this
        · refine (a3.mono (Q := fun b => M b ∨ b = H.objs.size) fun b hb => .inl hb).trans (k₆.mono fun b hb => .inr hb) |>.fresh fun b hb => ?_
          rcases hb with hb | hb
          · exact .inl hb
          · exact .inr (newB b (Nat.le_of_eq hb.symm))
    · obtain rfl : i = n := by omega
      refine wpAny_bind (W.done _ _ _ st' fun h₂ tk₂ hk₂ => wpAny_pure ?_)
      have k₂ : Kx (· ∈ wr) h' h₂ := Kx.but hk₂ fun b vs hb => hw i h' st' b hb vs
      refine ⟨m, Ns.kx ns' k₂ fun hb => by have := wrlt _ hb; omega, fun h₃ hs₃ => ?_⟩
      have ns₂ := Ns.kx ns' k₂ fun hb => by have := wrlt _ hb; omega
      have k₃ : Kx (· = H.objs.size + 1) h₂ h₃ := Kx.same hs₃ (not_tp_of_ns ns₂)
      refine done ys h₃ tk₂ H.objs.size (newB _ (Nat.le_refl _)) (jst _ _ _ _ j' ((k₂.mono fun b hb => .inl hb).trans (k₃.mono fun b hb => .inr (.inr hb)))) ?_ ?_
      · exact (acc'.kx k₂ fun hb => Nat.lt_irrefl _ (wrlt _ hb)).kx k₃ (Nat.ne_of_lt (Nat.lt_succ_self _))
      · refine ((kx'.mono (Q := fun b => M b ∨ b ∈ wr ∨ b = H.objs.size + 1) fun b hb => .inl hb).trans ((k₂.mono (Q := fun b => M b ∨ b ∈ wr ∨ b = H.objs.size + 1) fun b hb => .inr (.inl hb)).trans (k₃.mono fun b hb => .inr (.inr hb)))).fresh fun b hb => ?_
        rcases hb with hb | hb | hb
        · exact .inl hb
        · exact .inr (hwB b hb)
        · exact .inr (newB b (hb ▸ Nat.le_succ _))
  exact codeAny_compStart_list (cond _ rfl) (W.self 0 _ _ _ hst₁ (cond _ rfl))

section
variable {E : Value → Shared → Prop} {h : Heap} {tk : Nat}
theorem as_comp1 {C : Addr} {x : Str} {p : Pos} {v : Value} {m : Str → Option Value} {Q : Unit → Shared → Prop} {cenv : Env} (hC : cenv.locals = C) (hn : h.Ns C m)
    (hQ : ∀ h₂ tk₂ m₂, h₂.Ns C m₂ → m₂ x = some v → (∀ z, z ≠ x → m₂ z = m z) → Kx (· = C) h h₂ → Q () (Sh s h₂ tk₂))
    (hk : cenv.scope.kind = .function) (hx : cenv.kindOf x = some .local) : wpAny (model prog w) A (assign (.Name x p) cenv v) Q E (Sh s h tk) := by
  subst hC
  refine wpAny_assign_Name (wpAny_storeName_local hx hn (fun h' hn' hs => ?_) (by rw [hk]; rfl))
  exact hQ h' _ _ hn' (by simp) (fun z hz => by simp [hz]) (Kx.same hs (not_tp_of_ns hn))
theorem as_comp2 {C : Addr} {x y : Str} {p p1 p2 : Pos} {k : Nat} {a : Addr} {u v : Value} {m : Str → Option Value} {Q : Unit → Shared → Prop} {cenv : Env} (hh : A.handled = none) (hC : cenv.locals = C) (hn : h.Ns C m) (T : Tp h a [u, v]) (hxy : x ≠ y)
    (hQ : ∀ h₂ tk₂ m₂, h₂.Ns C m₂ → m₂ x = some u → m₂ y = some v → Kx (· = C) h h₂ → Q () (Sh s h₂ tk₂))
    (hk : cenv.scope.kind = .function) (hx : cenv.kindOf x = some .local) (hy : cenv.kindOf y = some .local) : wpAny (model prog w) A (assign (.Tuple [.Name x p1, .Name y p2] k p) cenv (.ref a)) Q E (Sh s h tk) := by
  refine as_T2 hh T fun h₁ k₁ => ?_
  refine as_comp1 hC (Ns.kx hn k₁ fun h => h) (fun h₂ tk₂ m₂ n₂ e₂ _ k₂ => ?_) hk hx
  refine as_comp1 hC n₂ (fun h₃ tk₃ m₃ n₃ e₃ r₃ k₃ => ?_) hk hy
  exact hQ h₃ tk₃ m₃ n₃ ((r₃ x hxy).trans e₂) e₃ (k₁.ofNon.trans (k₂.trans k₃))

abbrev tests (ifs : List Expr) (cenv : Env) : Sem Bool := forIn ifs true fun c r => if r = true then do let ok ← isTrue c cenv (eval c cenv); pure (ForInStep.yield ok) else pure (ForInStep.yield r)

/-- what a turn of a comprehension owes -/
abbrev CompTurn (prog : Program) (w : World) (A : Around) (s : Shared) (cenv : Env) (ifs : List Expr) (elt : Expr) (M : Addr → Prop) (J : Nat → List Value → Heap → Prop) (i : Nat) (ys : List Value) (h₂ : Heap) (tk₂ : Nat) : Prop :=
  wpAny (model prog w) A (tests ifs cenv) (fun ok s₃ =>
    if ok = true then wpAny (model prog w) A (eval elt cenv) (fun y s₄ => ∃ h' tk', s₄ = Sh s h' tk' ∧ Kx M h₂ h' ∧ J (i + 1) (ys ++ [y]) h') NE s₃
    else ∃ h' tk', s₃ = Sh s h' tk' ∧ Kx M h₂ h' ∧ J (i + 1) ys h') NE (Sh s h₂ tk₂)

theorem comp_turn_end {C : Addr} {cenv : Env} {ifs : List Expr} {elt : Expr} {M : Addr → Prop} {J : Nat → List Value → Heap → Prop} {i : Nat} {ys : List Value} {h₁ h₂ : Heap} {tk₂ : Nat} {m₂ : Str → Option Value}
    (n₂ : h₂.Ns C m₂) (hMC : ¬ M C) (k₂ : Kx (· = C) h₁ h₂) (x : CompTurn prog w A s cenv ifs elt M J i ys h₂ tk₂) :
    wpAny (model prog w) A (tests ifs cenv) (fun ok s₃ =>
        if ok = true then wpAny (model prog w) A (eval elt cenv) (fun y s₄ => ∃ h' tk' m', s₄ = Sh s h' tk' ∧ h'.Ns C m' ∧ Kx (fun b => M b ∨ b = C) h₁ h' ∧ J (i + 1) (ys ++ [y]) h') NE s₃
        else ∃ h' tk' m', s₃ = Sh s h' tk' ∧ h'.Ns C m' ∧ Kx (fun b => M b ∨ b = C) h₁ h' ∧ J (i + 1) ys h') NE (Sh s h₂ tk₂) := by
  refine wpAny_mono x (fun ok s₃ y => ?_) fun _ _ z => z
  cases ok with
  | false =>
    simp only [Bool.false_eq_true, if_false] at y ⊢
    obtain ⟨h', tk', e, k, j⟩ := y
    exact ⟨h', tk', m₂, e, Ns.kx n₂ k hMC, (k₂.mono fun b hb => .inr hb).trans (k.mono fun b hb => .inl hb), j⟩
  | true =>
    simp only [if_true] at y ⊢
    refine wpAny_mono y (fun yv s₄ z => ?_) fun _ _ z => z
    obtain ⟨h', tk', e, k, j⟩ := z
    exact ⟨h', tk', m₂, e, Ns.kx n₂ k hMC, (k₂.mono fun b hb => .inr hb).trans (k.mono fun b hb => .inl hb), j⟩

/-- a comprehension over a list, by one name -/
theorem ca_ls {scope : Scope} {cl : List (Str × Addr)} {x : Str} {px : Pos} {ifs : List Expr} {elt : Expr} {Q : Value → Shared → Prop} {a : Addr} {vs : List Value} (hh : A.handled = none) (T : Ls h a vs) (hlen : vs.length ≤ 100000)
    (M : Addr → Prop) (hM : ∀ b, M b → b < h.objs.size ∧ b ≠ a) (J : Nat → List Value → Heap → Prop) (j0 : J 0 [] h)
    (jst : ∀ i ys h₁ h₂, J i ys h₁ → Kx (fun b => h.objs.size ≤ b ∧ b ≤ h.objs.size + 2) h₁ h₂ → J i ys h₂)
    (turn : ∀ i v ys h₂ tk₂ m₂, vs[i]? = some v → J i ys h₂ → h₂.Ns (h.objs.size + 2) m₂ → m₂ x = some v → CompTurn prog w A s (compEnvC scope cl (h.objs.size + 2) env) ifs elt M J i ys h₂ tk₂)
    (done : ∀ ys h' tk' D, h.get? D = none → J vs.length ys h' → Ls h' D ys → Kx M h h' → Q (.ref D) (Sh s h' tk'))
    (hk : scope.kind = .function := by rfl) (hx : (compEnvC scope cl (h.objs.size + 2) env).kindOf x = some .local := by rfl) :
    wpAny (model prog w) A (pyIter (.ref a)) (fun it s₂ => CompAt prog w A env scope cl (.Name x px) ifs elt s Q it s₂) E (Sh s h tk) := by
  have hne : a ≠ h.objs.size := Nat.ne_of_lt T.lt
  refine wpAny_pyIter_list T.isList ?_
  have hsz : (h.push { cls := .type "list_iterator", data := .fields #[.ref a, .int 0 0] }).objs.size = h.objs.size + 1 := Heap.size_push ..
  have k0 : Kx Non h (h.push { cls := .type "list_iterator", data := .fields #[.ref a, .int 0 0] }) := Kx.push _ _
  refine ⟨h, _, tk, h.objs.size, _, _, _, _, _, M, J, rfl, rfl, Walks.list (prog := prog) (w := w) (A := A) hh h.objs.size a hne vs.toArray, ⟨⟨_, Heap.get?_push_size _ rfl, rfl, rfl⟩, T.isList.push _⟩, k0,
    fun b hb => ?_, fun i h' st b hb vs' => ?_, fun b hb => ?_, fun b hb => ?_, ?_, jst _ _ _ _ j0 k0.ofNon, fun i ys h₁ h₂ j k => jst i ys h₁ h₂ j (k.mono fun b hb => ?_), fun i v h₁ tk₁ Q' E' hi hP st hQ => wpAny_of_eq (by rfl) hQ, fun i v ys h₁ tk₁ m hi hP j hn => ?_, ?_⟩
  · rw [List.mem_singleton.mp hb]; exact get_none_of_ge (Nat.le_refl _)
  · rw [List.mem_singleton.mp hb]; exact not_tp_of_listiter st.1 vs'
  · rw [hsz]
    simp only [List.mem_cons, List.not_mem_nil, or_false] at hb
    rcases hb with rfl | rfl
    · exact Nat.lt_succ_self _
    · exact Nat.lt_succ_of_lt T.lt
  · have := hM b hb
    refine ⟨fun hm => ?_, by rw [hsz]; exact Nat.lt_succ_of_lt this.1⟩
    simp only [List.mem_cons, List.not_mem_nil, or_false] at hm
    rcases hm with rfl | rfl
    · exact Nat.lt_irrefl _ this.1
    · exact this.2 rfl
  · rw [sizeLine_eq]; simp; omega
  · rw [hsz] at hb
    rcases hb with hb | hb | hb
    · rw [List.mem_singleton.mp hb]; exact ⟨Nat.le_refl _, Nat.le_add_right _ _⟩
    · rw [hb]; exact ⟨Nat.le_succ _, Nat.le_succ _⟩
    · rw [hb]; exact ⟨Nat.le_add_right h.objs.size 2, Nat.le_refl (h.objs.size + 2)⟩
  · rw [hsz] at hn ⊢
    have hMC : ¬ M (h.objs.size + 2) := fun hm => absurd (hM _ hm).1 (Nat.not_lt.mpr (Nat.le_add_right _ _))
    refine as_comp1 rfl hn (fun h₂ tk₂ m₂ n₂ e₂ _ k₂ => ?_) (by simp [compEnvC, relabel, hk]) hx
    exact comp_turn_end n₂ hMC k₂ (turn i v ys h₂ tk₂ m₂ (by simpa using hP) (jst _ _ _ _ j (k₂.mono fun b hb => by rw [hb]; exact ⟨Nat.le_add_right h.objs.size 2, Nat.le_refl (h.objs.size + 2)⟩)) n₂ e₂)
  · intro ys h' tk' D hD j l k
    exact done ys h' tk' D hD (by simpa using j) l k

/-- a comprehension over a list of pairs, by two names -/
theorem ca_ls2 {scope : Scope} {cl : List (Str × Addr)} {x y : Str} {px py pt : Pos} {kt : Nat} {ifs : List Expr} {elt : Expr} {Q : Value → Shared → Prop} {a : Addr} {vs : List Value} (hh : A.handled = none) (T : Ls h a vs) (hlen : vs.length ≤ 100000)
    (hvs : ∀ v ∈ vs, ∃ b, v = .ref b) (M : Addr → Prop) (hM : ∀ b, M b → b < h.objs.size ∧ b ≠ a) (J : Nat → List Value → Heap → Prop) (j0 : J 0 [] h)
    (jst : ∀ i ys h₁ h₂, J i ys h₁ → Kx (fun b => h.objs.size ≤ b ∧ b ≤ h.objs.size + 2) h₁ h₂ → J i ys h₂) (hxy : x ≠ y)
    (pair : ∀ i b ys h₁, vs[i]? = some (.ref b) → J i ys h₁ → ∃ u v, Tp h₁ b [u, v])
    (turn : ∀ i b u v ys h₂ tk₂ m₂, vs[i]? = some (.ref b) → Tp h₂ b [u, v] → J i ys h₂ → h₂.Ns (h.objs.size + 2) m₂ → m₂ x = some u → m₂ y = some v → CompTurn prog w A s (compEnvC scope cl (h.objs.size + 2) env) ifs elt M J i ys h₂ tk₂)
    (done : ∀ ys h' tk' D, h.get? D = none → J vs.length ys h' → Ls h' D ys → Kx M h h' → Q (.ref D) (Sh s h' tk'))
    (hk : scope.kind = .function := by rfl) (hx : (compEnvC scope cl (h.objs.size + 2) env).kindOf x = some .local := by rfl) (hy : (compEnvC scope cl (h.objs.size + 2) env).kindOf y = some .local := by rfl) :
    wpAny (model prog w) A (pyIter (.ref a)) (fun it s₂ => CompAt prog w A env scope cl (.Tuple [.Name x px, .Name y py] kt pt) ifs elt s Q it s₂) E (Sh s h tk) := by
  have hne : a ≠ h.objs.size := Nat.ne_of_lt T.lt
  refine wpAny_pyIter_list T.isList ?_
  have hsz : (h.push { cls := .type "list_iterator", data := .fields #[.ref a, .int 0 0] }).objs.size = h.objs.size + 1 := Heap.size_push ..
  have k0 : Kx Non h (h.push { cls := .type "list_iterator", data := .fields #[.ref a, .int 0 0] }) := Kx.push _ _
  refine ⟨h, _, tk, h.objs.size, _, _, _, _, _, M, J, rfl, rfl, Walks.list (prog := prog) (w := w) (A := A) hh h.objs.size a hne vs.toArray, ⟨⟨_, Heap.get?_push_size _ rfl, rfl, rfl⟩, T.isList.push _⟩, k0,
    fun b hb => ?_, fun i h' st b hb vs' => ?_, fun b hb => ?_, fun b hb => ?_, ?_, jst _ _ _ _ j0 k0.ofNon, fun i ys h₁ h₂ j k => jst i ys h₁ h₂ j (k.mono fun b hb => ?_),
    fun i v h₁ tk₁ Q' E' hi hP st hQ => go_ls (s := Sh s h₁ tk₁) (.inr ⟨⟨_, _, _, rfl⟩, hvs⟩) (by simpa using List.mem_of_getElem? (by simpa using hP)) st.1 hQ, fun i v ys h₁ tk₁ m hi hP j hn => ?_, ?_⟩
  · rw [List.mem_singleton.mp hb]; exact get_none_of_ge (Nat.le_refl _)
  · rw [List.mem_singleton.mp hb]; exact not_tp_of_listiter st.1 vs'
  · rw [hsz]
    simp only [List.mem_cons, List.not_mem_nil, or_false] at hb
    rcases hb with rfl | rfl
    · exact Nat.lt_succ_self _
    · exact Nat.lt_succ_of_lt T.lt
  · have := hM b hb
    refine ⟨fun hm => ?_, by rw [hsz]; exact Nat.lt_succ_of_lt this.1⟩
    simp only [List.mem_cons, List.not_mem_nil, or_false] at hm
    rcases hm with rfl | rfl
    · exact Nat.lt_irrefl _ this.1
    · exact this.2 rfl
  · rw [sizeLine_eq]; simp; omega
  · rw [hsz] at hb
    rcases hb with hb | hb | hb
    · rw [List.mem_singleton.mp hb]; exact ⟨Nat.le_refl _, Nat.le_add_right _ _⟩
    · rw [hb]; exact ⟨Nat.le_succ _, Nat.le_succ _⟩
    · rw [hb]; exact ⟨Nat.le_add_right h.objs.size 2, Nat.le_refl (h.objs.size + 2)⟩
  · rw [hsz] at hn ⊢
    have hMC : ¬ M (h.objs.size + 2) := fun hm => absurd (hM _ hm).1 (Nat.not_lt.mpr (Nat.le_add_right _ _))
    have hP' : vs[i]? = some v := by simpa using hP
    obtain ⟨b, rfl⟩ := hvs v (List.mem_of_getElem? hP')
    obtain ⟨u, v, Tb⟩ := pair i b ys h₁ hP' j
    refine as_comp2 hh rfl hn Tb hxy (fun h₂ tk₂ m₂ n₂ e₂ e₃ k₂ => ?_) (by simp [compEnvC, relabel, hk]) hx hy
    exact comp_turn_end n₂ hMC k₂ (turn i b u v ys h₂ tk₂ m₂ hP' (Tb.kx k₂) (jst _ _ _ _ j (k₂.mono fun b hb => by rw [hb]; exact ⟨Nat.le_add_right h.objs.size 2, Nat.le_refl (h.objs.size + 2)⟩)) n₂ e₂ e₃)
  · intro ys h' tk' D hD j l k
    exact done ys h' tk' D hD (by simpa using j) l k

/-- a comprehension over a tuple -/
theorem ca_tp {scope : Scope} {cl : List (Str × Addr)} {x : Str} {px : Pos} {ifs : List Expr} {elt : Expr} {Q : Value → Shared → Prop} {a : Addr} {vs : List Value} (hh : A.handled = none) (T : Tp h a vs) (hlen : vs.length ≤ 100000)
    (M : Addr → Prop) (hM : ∀ b, M b → b < h.objs.size ∧ b ≠ a) (J : Nat → List Value → Heap → Prop) (j0 : J 0 [] h)
    (jst : ∀ i ys h₁ h₂, J i ys h₁ → Kx (fun b => h.objs.size ≤ b ∧ b ≤ h.objs.size + 2) h₁ h₂ → J i ys h₂)
    (turn : ∀ i v ys h₂ tk₂ m₂, vs[i]? = some v → J i ys h₂ → h₂.Ns (h.objs.size + 2) m₂ → m₂ x = some v → CompTurn prog w A s (compEnvC scope cl (h.objs.size + 2) env) ifs elt M J i ys h₂ tk₂)
    (done : ∀ ys h' tk' D, h.get? D = none → J vs.length ys h' → Ls h' D ys → Kx M h h' → Q (.ref D) (Sh s h' tk'))
    (hk : scope.kind = .function := by rfl) (hx : (compEnvC scope cl (h.objs.size + 2) env).kindOf x = some .local := by rfl) :
    wpAny (model prog w) A (pyIter (.ref a)) (fun it s₂ => CompAt prog w A env scope cl (.Name x px) ifs elt s Q it s₂) E (Sh s h tk) := by
  have hne : a ≠ h.objs.size := Nat.ne_of_lt T.lt
  refine PySem.wpAny_pyIter_tuple T.isTuple ?_
  have hsz : (h.push { cls := .type "tuple_iterator", data := .fields #[.ref a, .int 0 0] }).objs.size = h.objs.size + 1 := Heap.size_push ..
  have k0 : Kx Non h (h.push { cls := .type "tuple_iterator", data := .fields #[.ref a, .int 0 0] }) := Kx.push _ _
  refine ⟨h, _, tk, h.objs.size, _, _, _, _, _, M, J, rfl, rfl, Walks.tuple (prog := prog) (w := w) (A := A) hh h.objs.size a hne vs.toArray, ⟨⟨_, Heap.get?_push_size _ rfl, rfl, rfl⟩, T.isTuple.push _⟩, k0,
    fun b hb => ?_, fun i h' st b hb vs' => ?_, fun b hb => ?_, fun b hb => ?_, ?_, jst _ _ _ _ j0 k0.ofNon, fun i ys h₁ h₂ j k => jst i ys h₁ h₂ j (k.mono fun b hb => ?_), fun i v h₁ tk₁ Q' E' hi hP st hQ => wpAny_of_eq (by rfl) hQ, fun i v ys h₁ tk₁ m hi hP j hn => ?_, ?_⟩
  · rw [List.mem_singleton.mp hb]; exact get_none_of_ge (Nat.le_refl _)
  · rw [List.mem_singleton.mp hb]; exact not_tp_of_tupleiter st.1 vs'
  · rw [hsz]
    simp only [List.mem_cons, List.not_mem_nil, or_false] at hb
    rcases hb with rfl | rfl
    · exact Nat.lt_succ_self _
    · exact Nat.lt_succ_of_lt T.lt
  · have := hM b hb
    refine ⟨fun hm => ?_, by rw [hsz]; exact Nat.lt_succ_of_lt this.1⟩
    simp only [List.mem_cons, List.not_mem_nil, or_false] at hm
    rcases hm with rfl | rfl
    · exact Nat.lt_irrefl _ this.1
    · exact this.2 rfl
  · rw [sizeLine_eq]; simp; omega
  · rw [hsz] at hb
    rcases hb with hb | hb | hb
    · rw [List.mem_singleton.mp hb]; exact ⟨Nat.le_refl _, Nat.le_add_right _ _⟩
    · rw [hb]; exact ⟨Nat.le_succ _, Nat.le_succ _⟩
    · rw [hb]; exact ⟨Nat.le_add_right h.objs.size 2, Nat.le_refl (h.objs.size + 2)⟩
  · rw [hsz] at hn ⊢
    have hMC : ¬ M (h.objs.size + 2) := fun hm => absurd (hM _ hm).1 (Nat.not_lt.mpr (Nat.le_add_right _ _))
    refine as_comp1 rfl hn (fun h₂ tk₂ m₂ n₂ e₂ _ k₂ => ?_) (by simp [compEnvC, relabel, hk]) hx
    exact comp_turn_end n₂ hMC k₂ (turn i v ys h₂ tk₂ m₂ (by simpa using hP) (jst _ _ _ _ j (k₂.mono fun b hb => by rw [hb]; exact ⟨Nat.le_add_right h.objs.size 2, Nat.le_refl (h.objs.size + 2)⟩)) n₂ e₂)
  · intro ys h' tk' D hD j l k
    exact done ys h' tk' D hD (by simpa using j) l k

/-- a comprehension over range(k) -/
theorem ca_rg {scope : Scope} {cl : List (Str × Addr)} {x : Str} {px : Pos} {ifs : List Expr} {elt : Expr} {Q : Value → Shared → Prop} {r : Addr} {k : Nat} {t u v : Tok} (hh : A.handled = none) (T : IsRange h r 0 k 1 t u v) (hlen : k ≤ 100000)
    (M : Addr → Prop) (hM : ∀ b, M b → b < h.objs.size) (J : Nat → List Value → Heap → Prop) (j0 : J 0 [] h)
    (jst : ∀ i ys h₁ h₂, J i ys h₁ → Kx (fun b => h.objs.size ≤ b ∧ b ≤ h.objs.size + 2) h₁ h₂ → J i ys h₂)
    (turn : ∀ i ys h₂ tk₂ m₂, i < k → J i ys h₂ → h₂.Ns (h.objs.size + 2) m₂ → CompTurn prog w A s (compEnvC scope cl (h.objs.size + 2) env) ifs elt M J i ys h₂ tk₂)
    (done : ∀ ys h' tk' D, h.get? D = none → J k ys h' → Ls h' D ys → Kx M h h' → Q (.ref D) (Sh s h' tk'))
    (hk : scope.kind = .function := by rfl) (hx : (compEnvC scope cl (h.objs.size + 2) env).kindOf x = some .local := by rfl) :
    wpAny (model prog w) A (pyIter (.ref r)) (fun it s₂ => CompAt prog w A env scope cl (.Name x px) ifs elt s Q it s₂) E (Sh s h tk) := by
  have hrs : Builtin.Range.rangeSize 0 k 1 = (k : Int) := by unfold Builtin.Range.rangeSize; simp; omega
  have hsm : Builtin.Range.small 0 k 1 = true := by
    unfold Builtin.Range.small Builtin.Range.rangeFitsLong; rw [hrs]; simp; omega
  refine wpAny_pyIter_range T hsm ?_
  rw [hrs]
  have hsz : (h.push { cls := .type "range_iterator", data := .fields #[rawInt 0, rawInt (k : Int), rawInt 1] }).objs.size = h.objs.size + 1 := Heap.size_push ..
  have k0 : Kx Non h (h.push { cls := .type "range_iterator", data := .fields #[rawInt 0, rawInt (k : Int), rawInt 1] }) := Kx.push _ _
  refine ⟨h, _, tk, h.objs.size, _, _, _, _, _, M, J, rfl, rfl, Walks.range (prog := prog) (w := w) (A := A) hh h.objs.size 0 1 k,
    (by have e := Heap.get?_push_size h (o := { cls := .type "range_iterator", data := .fields #[rawInt 0, rawInt (k : Int), rawInt 1] }) rfl; simpa [IsRangeIter] using e), k0,
    fun b hb => ?_, fun i h' st b hb vs' => ?_, fun b hb => ?_, fun b hb => ?_, ?_, jst _ _ _ _ j0 k0.ofNon, fun i ys h₁ h₂ j k => jst i ys h₁ h₂ j (k.mono fun b hb => ?_), fun i v h₁ tk₁ Q' E' hi hP st hQ => wpAny_of_eq (by rfl) hQ, fun i v ys h₁ tk₁ m hi hP j hn => ?_, done⟩
  · rw [List.mem_singleton.mp hb]; exact get_none_of_ge (Nat.le_refl _)
  · rw [List.mem_singleton.mp hb]; exact not_tp_of_rangeiter st vs'
  · rw [hsz, List.mem_singleton.mp hb]; exact Nat.lt_succ_self _
  · have := hM b hb
    refine ⟨fun hm => ?_, by rw [hsz]; exact Nat.lt_succ_of_lt this⟩
    rw [List.mem_singleton.mp hm] at this
    exact Nat.lt_irrefl _ this
  · rw [sizeLine_eq]; omega
  · rw [hsz] at hb
    rcases hb with hb | hb | hb
    · rw [List.mem_singleton.mp hb]; exact ⟨Nat.le_refl _, Nat.le_add_right _ _⟩
    · rw [hb]; exact ⟨Nat.le_succ _, Nat.le_succ _⟩
    · rw [hb]; exact ⟨Nat.le_add_right h.objs.size 2, Nat.le_refl (h.objs.size + 2)⟩
  · rw [hsz] at hn ⊢
    have hMC : ¬ M (h.objs.size + 2) := fun hm => absurd (hM _ hm) (Nat.not_lt.mpr (Nat.le_add_right _ _))
    refine as_comp1 rfl hn (fun h₂ tk₂ m₂ n₂ e₂ _ k₂ => ?_) (by simp [compEnvC, relabel, hk]) hx
    exact comp_turn_end n₂ hMC k₂ (turn i ys h₂ tk₂ m₂ hi (jst _ _ _ _ j (k₂.mono fun b hb => by rw [hb]; exact ⟨Nat.le_add_right h.objs.size 2, Nat.le_refl (h.objs.size + 2)⟩)) n₂)

/-- a comprehension over a text's signs -/
theorem ca_str {scope : Scope} {cl : List (Str × Addr)} {x : Str} {px : Pos} {ifs : List Expr} {elt : Expr} {Q : Value → Shared → Prop} {txt : Str} {t : Tok} (hh : A.handled = none) (hlen : txt.cps.size ≤ 100000)
    (M : Addr → Prop) (hM : ∀ b, M b → b < h.objs.size) (J : Nat → List Value → Heap → Prop) (j0 : J 0 [] h)
    (jst : ∀ i ys h₁ h₂, J i ys h₁ → Kx (fun b => h.objs.size ≤ b ∧ b ≤ h.objs.size + 2) h₁ h₂ → J i ys h₂)
    (turn : ∀ i c u ys h₂ tk₂ m₂, txt.cps[i]? = some c → J i ys h₂ → h₂.Ns (h.objs.size + 2) m₂ → m₂ x = some (.str ⟨#[c]⟩ u) → CompTurn prog w A s (compEnvC scope cl (h.objs.size + 2) env) ifs elt M J i ys h₂ tk₂)
    (done : ∀ ys h' tk' D, h.get? D = none → J txt.cps.size ys h' → Ls h' D ys → Kx M h h' → Q (.ref D) (Sh s h' tk'))
    (hk : scope.kind = .function := by rfl) (hx : (compEnvC scope cl (h.objs.size + 2) env).kindOf x = some .local := by rfl) :
    wpAny (model prog w) A (pyIter (.str txt t)) (fun it s₂ => CompAt prog w A env scope cl (.Name x px) ifs elt s Q it s₂) E (Sh s h tk) := by
  have main : ∀ (o : Obj) (St : Nat → Heap → Prop), Walks prog w A h.objs.size [h.objs.size] [h.objs.size] txt.cps.size (SignAt txt) St → (∀ i h', St i h' → ∀ vs, ¬ Tp h' h.objs.size vs) → St 0 (h.push o) →
      CompAt prog w A env scope cl (.Name x px) ifs elt s Q (.ref h.objs.size) (Sh s (h.push o) tk) := by
    intro o St W hw st
    have hsz : (h.push o).objs.size = h.objs.size + 1 := Heap.size_push ..
    have k0 : Kx Non h (h.push o) := Kx.push _ _
    refine ⟨h, _, tk, h.objs.size, _, _, _, _, _, M, J, rfl, rfl, W, st, k0,
      fun b hb => ?_, fun i h' st b hb vs' => ?_, fun b hb => ?_, fun b hb => ?_, ?_, jst _ _ _ _ j0 k0.ofNon, fun i ys h₁ h₂ j k => jst i ys h₁ h₂ j (k.mono fun b hb => ?_), fun i v h₁ tk₁ Q' E' hi hP st hQ => wpAny_of_eq (by rfl) hQ, fun i v ys h₁ tk₁ m hi hP j hn => ?_, done⟩
    · rw [List.mem_singleton.mp hb]; exact get_none_of_ge (Nat.le_refl _)
    · rw [List.mem_singleton.mp hb]; exact hw i h' st vs'
    · rw [hsz, List.mem_singleton.mp hb]; exact Nat.lt_succ_self _
    · have := hM b hb
      refine ⟨fun hm => ?_, by rw [hsz]; exact Nat.lt_succ_of_lt this⟩
      rw [List.mem_singleton.mp hm] at this
      exact Nat.lt_irrefl _ this
    · rw [sizeLine_eq]; omega
    · rw [hsz] at hb
      rcases hb with hb | hb | hb
      · rw [List.mem_singleton.mp hb]; exact ⟨Nat.le_refl _, Nat.le_add_right _ _⟩
      · rw [hb]; exact ⟨Nat.le_succ _, Nat.le_succ _⟩
      · rw [hb]; exact ⟨Nat.le_add_right h.objs.size 2, Nat.le_refl (h.objs.size + 2)⟩
    · rw [hsz] at hn ⊢
      obtain ⟨c, u, hc, rfl⟩ := hP
      have hMC : ¬ M (h.objs.size + 2) := fun hm => absurd (hM _ hm) (Nat.not_lt.mpr (Nat.le_add_right _ _))
      refine as_comp1 rfl hn (fun h₂ tk₂ m₂ n₂ e₂ _ k₂ => ?_) (by simp [compEnvC, relabel, hk]) hx
      exact comp_turn_end n₂ hMC k₂ (turn i c u ys h₂ tk₂ m₂ hc (jst _ _ _ _ j (k₂.mono fun b hb => by rw [hb]; exact ⟨Nat.le_add_right h.objs.size 2, Nat.le_refl (h.objs.size + 2)⟩)) n₂ e₂)
  cases ha : txt.cps.all (· < 128)
  · exact wpAny_pyIter_wide ha (main _ _ (Walks.strWide hh _ txt t) (fun i h' st => not_tp_of_striter (by decide) st) ⟨_, Heap.get?_push_size _ rfl, rfl, rfl⟩)
  · exact wpAny_pyIter_ascii ha (main _ _ (Walks.strAscii hh _ txt t) (fun i h' st => not_tp_of_striter (by decide) st) ⟨_, Heap.get?_push_size _ rfl, rfl, rfl⟩)
end
end
end Mine

namespace Mine
example : kf = kf ∧ PySem.Challenge.rw_pq0112_01 = PySem.Challenge.rw_pq0112_01 := by k_fill; exact ⟨rfl, rfl⟩

section
variable {w : World} {A : Around} {s : Shared} {h : Heap} {tk : Nat} {h0 : Heap} {R : Result → Shared → Prop} {E : Value → Shared → Prop} {env : Env}

theorem g_len : nsIn (kf w.params) mainGlobals (Str.ofString "len") = some none := by k_is
theorem b_len : bootBuiltins (Str.ofString "len") = some (.builtin "len") := by boot_by_name

/-- len(x) of a name -/
theorem e_len {p1 p2 : Pos} {e : Expr} {Q : Value → Shared → Prop} (B : Bs (kf w.params) h0 h)
    (hh : wpAny (model prg w) A (eval e env) (fun v s₁ => wpAny (model prg w) A (call (.builtin "len") [v]) Q E s₁) E (Sh s h tk))
    (hk : env.scope.kind = .function := by rfl) (hx : env.kindOf (Str.ofString "len") = some .globalImplicit := by rfl) (hg : env.globals = mainGlobals := by rfl) (hb : env.builtins = builtinsNs := by rfl)
    (he : starEach [e] env = [(false, eval e env)] := by rfl) :
    wpAny (model prg w) A (eval (.Call (.Name (Str.ofString "len") p1) [e] [] p2) env) Q E (Sh s h tk) := by
  refine Call_ (nm_B B g_len b_len ?_ hk hx hg hb)
  refine callWith_builtin1 (ar_cons (wpAny_mono hh (fun v s₁ x => ar_nil x) fun _ _ z => z) ?_) ?_
  · rw [he]; rfl
  · rw [he]; rfl

theorem kept_kx (h : Heap) : KeptH (fun h' => Kx Non h h') := fun _ ob k => k.trans (Kx.push _ ob)

/-- x[:1] -/
theorem e_cut1 {value : Expr} {p1 p2 p3 : Pos} {k : Nat} {Q : Value → Shared → Prop} {st : Shared}
    (hh : wpAny (model prg w) A (eval value env) (fun v s₁ => ∃ x t h₁ tk₁, v = .str x t ∧ s₁ = Sh s h₁ tk₁ ∧ x.length ≤ 100000 ∧ ∀ h' t' tk', Kx Non h₁ h' → Q (.str (Txt.slice x none (some 1)) t') (Sh s h' tk')) E st) :
    wpAny (model prg w) A (eval (.Subscript value (.Slice none (some (.Constant (.int 1) k p1)) none p2) p3) env) Q E st := by
  refine Subscript_ (wpAny_mono hh (fun v s₁ ⟨x, t, h₁, tk₁, e1, e2, hsz, hQ⟩ => ?_) fun _ _ z => z)
  subst e1 e2
  refine wpAny_Slice (wpAny_evalPart_none (wpAny_evalPart_some (e_int fun t1 tk1 => wpAny_evalPart_none ?_)))
  refine tail_of_ItemOn (SBH.sliceItem_ns (s := Sh s h₁ tk1) (kept_kx h₁) (Kx.refl _ _) (fun h' t' k' a => hQ h' t' k' a) (by rw [sizeLine_eq]; show x.length ≤ _; omega)) (by with_unfolding_all rfl) (by intro _; cases value <;> rfl)

def qm : Str := Str.ofString "?"
def startsQ (op : Str) : Bool := Txt.slice op none (some 1) == qm

theorem isvar_spec {n : Nat} (r : Rm (n + 1) A) (B : Bs (kf w.params) h0 h) {a : Addr} {op : Str} {t : Tok} {vs : List Value} (T : Tp h a (.str op t :: vs)) (hv : vs.length ≤ 100000) (ho : op.length ≤ 100000)
    (hR : ∀ h' tk', Kx Non h h' → R (.ok (.ret (.bool (vs.isEmpty && startsQ op)))) (Sh s h' tk')) :
    codeAny (model prg w) A (.call (.ref 74) ⟨[.ref a], []⟩) R (Sh s h tk) := by
  refine enter r B (by k_is) (by k_is) (binds := [(Str.ofString "t", .ref a)]) rfl (by rfl) (fun L h₁ tk₁ hL r₁ B₁ k₁ hm F => ?_)
  have T₁ := T.kx k₁
  refine x_ret (wpAny_And2 (wpAny_Compare1 (e_len B₁ (nm_L F.ns (v := .ref a) rfl (len_tp T₁ (by simp; omega) (fun t2 tk2 => ?_))))))
  refine e_int fun t3 tk3 => eq_int (wpAny_truthy_bool ?_)
  cases vs with
  | cons v vs =>
    have e : (((Value.str op t :: v :: vs).length : Int) == 1) = false := by simp; omega
    rw [e]
    simpa using hR h₁ tk3 k₁
  | nil =>
    have e : (((Value.str op t :: ([] : List Value)).length : Int) == 1) = true := by simp
    rw [e]
    simp only [if_true]
    refine wpAny_Compare1 (e_cut1 (Subscript_ (nm_L F.ns (v := .ref a) rfl (e_int fun t4 tk4 => sub_tp T₁ (by decide) (by decide) (x := .str op t) rfl ⟨op, t, h₁, tk4, rfl, rfl, ho, fun h' t' tk' k' => ?_⟩))))
    refine e_str fun t5 tk5 => eq_str ?_
    exact hR h' tk5 (k₁.trans k')

/-- a list against an empty one -/
theorem eq_ls_nil {a b : Addr} {vs : List Value} {Q : Value → Shared → Prop} (hu : A.units < cLine) (T : Ls s.heap a vs) (T2 : Ls s.heap b []) (hQ : Q (.bool vs.isEmpty) s) : wpAny (model prg w) A (compareOp .Eq (.ref a) (.ref b)) Q E s := by
  cases vs with
  | nil => exact SeqAt.eq_listAt (e := fun _ => true) T.isList T2.isList rfl hu (fun j h1 _ => absurd h1 (Nat.not_lt_zero j)) (by simpa using hQ)
  | cons v vs => exact SeqAt.eq_list_lengthsAt T.isList T2.isList (by simp) hu hQ

/-- a list display -/
theorem e_list {elts : List Expr} {pos : Pos} {Q : Value → Shared → Prop} {st : Shared}
    (hh : wpAny (model prg w) A (spliced (backTo pos (starEach elts env))) (fun vs s₁ => ∃ h₁ tk₁, s₁ = Sh s h₁ tk₁ ∧ vs.length ≤ 100000 ∧ ∀ h', Ls h' h₁.objs.size vs → Kx Non h₁ h' → Q (.ref h₁.objs.size) (Sh s h' tk₁)) E st) :
    wpAny (model prg w) A (eval (.List elts pos) env) Q E st := by
  refine wpAny_List (wpAny_mono hh (fun vs s₁ ⟨h₁, tk₁, e, hl, hQ⟩ => ?_) fun _ _ z => z)
  subst e
  exact ⟨by rw [sizeLine_eq]; omega, hQ _ (Ls.newList _ _) (Kx.push _ _)⟩
theorem e_nil {pos : Pos} {Q : Value → Shared → Prop} (hQ : ∀ h', Ls h' h.objs.size [] → Kx Non h h' → Q (.ref h.objs.size) (Sh s h' tk)) : wpAny (model prg w) A (eval (.List [] pos) env) Q E (Sh s h tk) :=
  e_list (ar_nil ⟨h, tk, rfl, by simp, hQ⟩)
theorem e_tuple {elts : List Expr} {k : Nat} {pos : Pos} {Q : Value → Shared → Prop} {st : Shared}
    (hh : wpAny (model prg w) A (spliced (backTo pos (starEach elts env))) (fun vs s₁ => ∃ h₁ tk₁, s₁ = Sh s h₁ tk₁ ∧ vs.length ≤ 100000 ∧ ∀ h', Tp h' h₁.objs.size vs → Kx Non h₁ h' → Q (.ref h₁.objs.size) (Sh s h' tk₁)) E st) :
    wpAny (model prg w) A (eval (.Tuple elts k pos) env) Q E st := by
  refine wpAny_Tuple (wpAny_mono hh (fun vs s₁ ⟨h₁, tk₁, e, hl, hQ⟩ => ?_) fun _ _ z => z)
  subst e
  exact ⟨by rw [sizeLine_eq]; omega, hQ _ (Tp.newTuple _ _) (Kx.push _ _)⟩

theorem isEmpty_of_len {α β : Type} {l : List α} {k : List β} (e : l.length = k.length) : l.isEmpty = k.isEmpty := by
  cases l <;> cases k <;> simp_all
def brs : Str := Str.ofString "()[]{},:"
def opBad (c : Nat) : Bool := Txt.isspace ⟨#[c]⟩ || decide (c ∈ brs.cps.toList)
def isOp (x : Str) : Bool := x != Str.ofString "" && (x.cps.toList.filter opBad).isEmpty

theorem isop_spec {n : Nat} (r : Rm (n + 1) A) (B : Bs (kf w.params) h0 h) {x : Str} {t : Tok} (hx : x.cps.size ≤ 100000)
    (hR : ∀ h' tk', Kx Non h h' → R (.ok (.ret (.bool (isOp x)))) (Sh s h' tk')) :
    codeAny (model prg w) A (.call (.ref 67) ⟨[.str x t], []⟩) R (Sh s h tk) := by
  refine enter r B (by k_is) (by k_is) (binds := [(Str.ofString "text", .str x t)]) rfl (by rfl) (fun L h₁ tk₁ hL r₁ B₁ k₁ hm F => ?_)
  refine x_ret (wpAny_And2 (wpAny_Compare1 (nm_L F.ns (v := .str x t) rfl (e_str fun t2 tk2 => ne_str (wpAny_truthy_bool ?_)))))
  by_cases hx0 : (x != Str.ofString "") = true
  · rw [if_pos hx0]
    have e : isOp x = (x.cps.toList.filter opBad).isEmpty := by simp only [isOp, hx0, Bool.true_and]
    rw [e] at hR
    refine wpAny_Compare1 (comp_W (s := s) (cl := []) rfl (by decide) (by decide) (nm_L F.ns (v := .str x t) rfl ?_))
    refine ca_str r₁.h hx Non (fun _ h => h.elim) (fun i ys _ => ys.length = ((x.cps.toList.take i).filter opBad).length) rfl (fun _ _ _ _ j _ => j) (fun i c u ys h₂ tk₂ m₂ hc j n₂ e₂ => ?_) (fun ys h' tk' D hD j l k => ?_)
    · have hi : (x.cps.toList.take (i + 1)).filter opBad = (x.cps.toList.take i).filter opBad ++ (if opBad c then [c] else []) := by
        rw [List.take_add_one, List.filter_append]
        have : x.cps.toList[i]? = some c := by simpa using hc
        rw [this]
        cases hb : opBad c <;> simp [hb]
      refine wpAny_tests_one (wpAny_isTrue_BoolOp (wpAny_allTrue_Or_cons (wpAny_isTrue_value (Call_method0 (by rfl) (by rfl) (nm_L n₂ e₂ (SB.isspace (wpAny_truthy_bool ?_)))))))
      have yes : opBad c = true → ∀ tk', ∃ h' tk'', Sh s h₂ tk' = Sh s h' tk'' ∧ Kx Non h₂ h' ∧ (ys ++ [Value.str ⟨#[c]⟩ u]).length = ((x.cps.toList.take (i + 1)).filter opBad).length := fun hb tk' =>
        ⟨h₂, tk', rfl, Kx.refl _ _, by rw [hi, hb]; simp [j]⟩
      by_cases hs : Txt.isspace ⟨#[c]⟩ = true
      · rw [if_pos hs, if_pos rfl]
        exact nm_L n₂ e₂ (yes (by simp [opBad, hs]) _)
      · rw [if_neg hs]
        have hs' : Txt.isspace ⟨#[c]⟩ = false := by simpa using hs
        refine wpAny_allTrue_Or_cons (wpAny_isTrue_Compare1 (nm_L n₂ e₂ (e_str fun t3 tk3 => in_str (wpAny_truthy_bool ?_))))
        rw [StrLaws.found_one]
        by_cases hb : decide (c ∈ (Str.ofString "()[]{},:").cps.toList) = true
        · rw [if_pos hb, if_pos rfl]
          exact nm_L n₂ e₂ (yes (by unfold opBad brs; rw [hb, Bool.or_true]) _)
        · rw [if_neg hb]
          refine wpAny_allTrue_Or_nil ?_
          rw [if_neg (by decide)]
          have hb' : decide (c ∈ (Str.ofString "()[]{},:").cps.toList) = false := by simpa using hb
          have : opBad c = false := by unfold opBad brs; rw [hb', hs']; rfl
          exact ⟨h₂, tk3, rfl, Kx.refl _ _, by show ys.length = _; rw [hi, this]; simpa using j⟩
    · refine e_nil fun h2 l2 k2 => eq_ls_nil r₁.units (l.kx k2 fun h => h) l2 ?_
      rw [List.take_of_length_le (by simp)] at j
      rw [isEmpty_of_len j]
      exact hR _ _ (k₁.trans (k.trans k2))
  · rw [if_neg hx0]
    have e : isOp x = false := by simp only [isOp, hx0, Bool.false_and]
    rw [e] at hR
    have e0 : (x != Str.ofString "") = false := by simpa using hx0
    rw [e0]
    exact hR h₁ tk2 k₁

/-- _law_barred() -/
def barredL : List Str := [Str.ofString " ", Str.ofString "\t", Str.ofString "\n", Str.ofString "(", Str.ofString ")", Str.ofString "[", Str.ofString "]", Str.ofString "{", Str.ofString "}", Str.ofString ",", Str.ofString ":"]
/-- the values are these texts -/
def StrVals (xs : List Str) (vs : List Value) : Prop := Paired (fun x v => ∃ t, v = Value.str x t) xs vs
/-- a display of texts, all at once -/
inductive Texts : List Expr → List Str → Prop
  | nil : Texts [] []
  | cons {x k p es xs} : Texts es xs → Texts (.Constant (.str x) k p :: es) (x :: xs)
theorem ar_texts {es : List Expr} {xs : List Str} (T : Texts es xs) : ∀ {tk : Nat} {pos : Pos} {Q : List Value → Shared → Prop}, (∀ vs tk', StrVals xs vs → Q vs (Sh s h tk')) → wpAny (model prg w) A (spliced (backTo pos (starEach es env))) Q E (Sh s h tk) := by
  induction T with
  | nil => intro tk pos Q hQ; exact ar_nil (hQ _ _ Paired.nil)
  | cons T ih => intro tk pos Q hQ; exact ar_cons (e_str fun t tk' => ih fun vs tk2 sv => hQ _ _ (Paired.cons ⟨_, rfl⟩ sv))
theorem barred_spec {n : Nat} (r : Rm (n + 1) A) (B : Bs (kf w.params) h0 h)
    (hR : ∀ h' tk' D vs, h.get? D = none → Ls h' D vs → StrVals barredL vs → Kx Non h h' → R (.ok (.ret (.ref D))) (Sh s h' tk')) :
    codeAny (model prg w) A (.call (.ref 209) ⟨[], []⟩) R (Sh s h tk) := by
  refine enter r B (by k_is) (by k_is) (binds := []) ?c1 ?c2 (fun L h₁ tk₁ hL r₁ B₁ k₁ hm F => ?_)
  case c1 => rfl
  case c2 => rfl
  refine x_ret ?_
  refine e_list (s := s) ?_
  with_reducible refine ar_texts (xs := barredL) ?t ?u
  case t =>
    unfold barredL
    repeat (first | exact Texts.nil | refine Texts.cons ?_)
  intro vs tk' sv
  refine ⟨h₁, _, rfl, ?_, fun h' l k => ?_⟩
  · rw [← Paired.length sv]; decide
  refine hR _ _ _ _ ?_ l sv (k₁.trans k)
  exact get_none_of_ge (Nat.le_of_lt (Nat.lt_of_le_of_lt (Nat.le_of_eq hL.symm) F.ns.lt))
end
end Mine

namespace Mine

theorem Kx.more {P : Addr → Prop} {h h' h'' : Heap} (x : Kx Non h h') (y : Kx P h' h'') (hP : ∀ b, P b → h.get? b = none) : Kx Non h h'' :=
  ((x.ofNon (Q := P)).trans y).fresh fun b hb => .inr (hP b hb)
theorem Fx.it {env : Env} {m cm : Str → Option Value} {h h' : Heap} {N : Addr} (F : Fx env m cm h) (k : Kx (· = N) h h') (hm : ∀ b, Env.mine env b → b < N) : Fx env m cm h' :=
  F.kx k fun b hb hmn => absurd (hm b hmn) (hb ▸ Nat.lt_irrefl _)

section
variable {w : World} {A : Around} {s : Shared} {h : Heap} {tk : Nat} {h0 : Heap} {R : Result → Shared → Prop} {E : Value → Shared → Prop} {env : Env}

def isBarred (c : Nat) : Bool := barredL.any fun y => y == ⟨#[c]⟩
def isWord (x : Str) : Bool := x.cps.toList.all (fun c => !isBarred c) && x != Str.ofString ""

def strEq (x : Str) : Value → Bool
  | .str y _ => y == x
  | _ => false
theorem any_strVals {xs : List Str} {vs : List Value} (hv : StrVals xs vs) (x : Str) : vs.any (strEq x) = xs.any fun y => y == x := by
  induction hv with
  | nil => rfl
  | cons hd _ ih => obtain ⟨t, rfl⟩ := hd; simp [strEq, ih]
theorem StrVals.mem {xs : List Str} {vs : List Value} (hv : StrVals xs vs) : ∀ v ∈ vs, ∃ x t, x ∈ xs ∧ v = .str x t := by
  induction hv with
  | nil => intro v hv; cases hv
  | cons hd _ ih =>
    obtain ⟨t, rfl⟩ := hd
    intro v hv
    rcases List.mem_cons.mp hv with rfl | hv
    · exact ⟨_, t, List.mem_cons_self, rfl⟩
    · obtain ⟨x, t, hx, e⟩ := ih v hv; exact ⟨x, t, List.mem_cons_of_mem _ hx, e⟩
/-- sign in a list of texts -/
theorem in_strs {a : Addr} {xs : List Str} {vs : List Value} {x : Str} {t : Tok} {Q : Value → Shared → Prop} (T : Ls s.heap a vs) (hv : StrVals xs vs) (hQ : Q (.bool (xs.any fun y => y == x)) s) :
    wpAny (model prg w) A (compareOp .In (.str x t) (.ref a)) Q E s := by
  refine SeqAt.in_listAt (strEq x) T.isList (fun y hy => ?_) (by rw [List.any_toArray]; rw [any_strVals hv x]; exact hQ)
  obtain ⟨z, u, _, rfl⟩ := hv.mem y (by simpa using hy)
  exact (eqGives_str z x u t).at _ _

theorem g_barred : nsIn (kf w.params) mainGlobals (Str.ofString "_law_barred") = some (some (.ref 209)) := by k_is
theorem k_barred : keepIn (kf w.params) (.ref 209) = true := by k_is

theorem isword_spec {n : Nat} (r : Rm (n + 2) A) (B : Bs (kf w.params) h0 h) {x : Str} {t : Tok} (hx : x.cps.size ≤ 100000)
    (hR : ∀ h' tk', Kx Non h h' → R (.ok (.ret (.bool (isWord x)))) (Sh s h' tk')) :
    codeAny (model prg w) A (.call (.ref 235) ⟨[.str x t], []⟩) R (Sh s h tk) := by
  refine enter r B (by k_is) (by k_is) (binds := [(Str.ofString "text", .str x t)]) rfl (by rfl) (fun L h₁ tk₁ hL r₁ B₁ k₁ hm F => ?_)
  have hnone : ∀ b, b = L → h.get? b = none := fun b hb => get_none_of_ge (by rw [hb, hL]; exact Nat.le_refl _)
  refine x_for (nm_L F.ns (v := .str x t) rfl (for_str r₁.h (· = L) (fun b hb => hb ▸ F.ns.lt)
    (fun i h' => ∃ m', Fx _ m' _ h' ∧ m' (Str.ofString "text") = some (.str x t) ∧ Kx Non h h' ∧ ∀ c ∈ x.cps.toList.take i, isBarred c = false) ⟨_, F, rfl, k₁, by simp⟩ ?_ ?_ ?_))
  · rintro i h₂ h₃ ⟨m', F', e, k, hc⟩ k'
    exact ⟨m', F'.it k' fun b hb => (hm b hb).2, e, k.more k' fun b hb => get_none_of_ge (by rw [hb]; exact Nat.le_trans (Nat.le_of_eq hL.symm) (Nat.le_of_lt F.ns.lt)), hc⟩
  · rintro i c u h₂ tk₂ hc ⟨m', F', e, k, hall⟩
    refine as_L F' fun h₃ tk₃ F₃ k₃ => ?_
    have k3 := k.more k₃ hnone
    refine x_if (wpAny_isTrue_Compare1 (nm_L F₃.ns (v := .str ⟨#[c]⟩ u) (by simp) (Call_ (nm_K (B.non k3) g_barred (cw_K0 k_barred (B.non k3) (wpAny_call (barred_spec r₁ (B.non k3) fun h₄ tk₄ D vs hD l4 sv k₄ => ?_)))))))
    refine in_strs l4 sv (wpAny_truthy_bool ?_)
    by_cases hb : isBarred c = true
    · rw [show (barredL.any fun y => y == ⟨#[c]⟩) = true from hb, if_pos rfl]
      refine x_ret (wpAny_Constant_bool ?_)
      have : isWord x = false := by
        unfold isWord
        rw [show x.cps.toList.all (fun c => !isBarred c) = false from ?_]; rfl
        rw [List.all_eq_false]
        exact ⟨c, by simpa using Array.mem_of_getElem? hc, by simp [hb]⟩
      rw [this] at hR
      exact hR h₄ tk₄ (k3.trans k₄)
    · rw [show (barredL.any fun y => y == ⟨#[c]⟩) = false from (by simpa using hb : isBarred c = false), if_neg (by decide)]
      refine wpAny_execs_nil (wpAny_execs_nil ?_)
      refine ⟨h₄, tk₄, rfl, (k₃.mono fun b hb => hb).trans k₄.ofNon, _, F₃.non k₄, (if_neg (by decide)).trans e, k3.trans k₄, ?_⟩
      intro c' hc'
      rw [List.take_add_one] at hc'
      rcases List.mem_append.mp hc' with h1 | h1
      · exact hall c' h1
      · have : x.cps.toList[i]? = some c := by simpa using hc
        rw [this] at h1
        simp at h1; subst h1; simpa using hb
  · rintro h' tk' ⟨m', F', e, k, hall⟩
    refine x_ret (wpAny_Compare1 (nm_L F'.ns (v := .str x t) e (e_str fun t2 tk2 => ne_str ?_)))
    have : isWord x = (x != Str.ofString "") := by
      unfold isWord
      rw [show x.cps.toList.all (fun c => !isBarred c) = true from ?_, Bool.true_and]
      rw [List.all_eq_true]
      intro c hc
      rw [hall c (by rw [List.take_of_length_le (by simp)]; exact hc)]; rfl
    rw [this] at hR
    exact hR h' tk2 k
end
end Mine

namespace Mine
open AutoSeq1 (wpAny_loadPart')

theorem meets_enumerate_newT (l : Addr) (items : Array Value) (n : Nat) (dct : Option Addr) (sl : Array (Option Value)) :
    Meets (Builtin.«enumerate.__new__» ⟨[.type "enumerate", .ref l], []⟩) (fun _ R s => s.heap.get? l = some { cls := .type "tuple", dict := dct, data := .seq items n, slots := sl } ∧
      R (.ok (.ret (.ref (s.heap.push { cls := .type "tuple_iterator", data := .fields #[.ref l, .int 0 0] }).objs.size)))
        { s with heap := (s.heap.push { cls := .type "tuple_iterator", data := .fields #[.ref l, .int 0 0] }).push { cls := .type "enumerate", data := .fields #[.none, .bool false, .ref s.heap.objs.size, rawInt 0, .none, .none] } }) :=
  .of_wp fun prog w A R s h => by
    obtain ⟨hp, g, d, tk, os⟩ := s; obtain ⟨hl, h⟩ := h
    have hsub := sub_enumerate
    have hL : Heap.IsTuple (Shared.heap ⟨hp, g, d, tk, os⟩) l items := ⟨_, hl, rfl, n, rfl⟩
    wp_walk using wpAny_loadPart' hl
    refine wpAny_stack_any fun st => wpAny_pure ?_
    split
    · rename_i c _ _ _ _ _
      cases (c == Value.type "enumerate")
      · wp_walk using wpAny_loadPart' hl, PySem.wpAny_pyIter_tuple hL
        exact ⟨_, rfl, h⟩
      · wp_walk using wpAny_loadPart' hl, PySem.wpAny_pyIter_tuple hL
        exact ⟨_, rfl, h⟩
    · wp_walk using wpAny_loadPart' hl, PySem.wpAny_pyIter_tuple hL
      exact ⟨_, rfl, h⟩

section
variable {prog : Program} {w : World} {A : Around} {s : Shared} {h : Heap} {tk : Nat} {E : Value → Shared → Prop} {env : Env}

theorem call_enum_tp {a : Addr} {vs : List Value} {Q : Value → Shared → Prop} (T : Tp h a vs)
    (hQ : ∀ h', IsEnum h' (h.objs.size + 1) h.objs.size 0 .none → h'.IsTupleIter h.objs.size a 0 → Kx Non h h' → Q (.ref (h.objs.size + 1)) (Sh s h' tk)) :
    wpAny (model prog w) A (call (.type "enumerate") [.ref a]) Q E (Sh s h tk) := by
  obtain ⟨n, ht⟩ := T
  refine callType_new F.called_enumerate (by decide) (F.typeCall_enumerate_1 _) (F.newCall_enumerate_1 _) (fun obj => F.args_object_init_2 obj _) F.entry_enumerate_new
    (meets_enumerate_newT a vs.toArray n none #[]) ⟨ht, ?_⟩
  have hz : (h.push { cls := .type "tuple_iterator", data := .fields #[.ref a, .int 0 0] }).objs.size = h.objs.size + 1 := Heap.size_push ..
  show _ ∧ _
  rw [hz]
  have he : IsEnum ((h.push { cls := .type "tuple_iterator", data := .fields #[.ref a, .int 0 0] }).push
      { cls := .type "enumerate", data := .fields #[.none, .bool false, .ref h.objs.size, rawInt 0, .none, .none] }) (h.objs.size + 1) h.objs.size 0 .none := by
    have := Heap.get?_push_size (h.push { cls := .type "tuple_iterator", data := .fields #[.ref a, .int 0 0] })
      (o := { cls := .type "enumerate", data := .fields #[.none, .bool false, .ref h.objs.size, rawInt 0, .none, .none] }) rfl
    rw [hz] at this; exact this
  exact ⟨⟨_, he, rfl⟩, hQ _ he ⟨_, Heap.get?_push_of_some _ (Heap.get?_push_size _ rfl), rfl, rfl⟩ ((Kx.push _ _).trans (Kx.push _ _))⟩

theorem nextOf_tuple_item {it t : Addr} {i : Nat} {items : Array Value} {x : Value} {Q : Value → Shared → Prop} (hit : s.heap.IsTupleIter it t i)
    (ht : s.heap.IsTuple t items) (hx : items[i]? = some x)
    (hQ : ∀ h', h'.IsTupleIter it t (i + 1) → Heap.SameBut it s.heap h' → Q x { s with heap := h' }) :
    wpAny (model prog w) A (Builtin.SmallTypes.nextOf (.ref it)) Q E s := by
  obtain ⟨o, ho, hc, hd⟩ := id hit
  obtain ⟨ol, hol, _, nl, hdl⟩ := ht
  unfold Builtin.SmallTypes.nextOf
  refine wpAny_bind (wpAny_callSpecial?_slot (name := Str.ofString "__next__") hit.typeIs F.slot_tuple_iterator_next
    (wpAny_call_entry F.slot_tuple_iterator_next hit.typeIs F.entry_tuple_iterator_next ?_ (F.args_tuple_iterator_next_1 _)))
  show wpAny _ _ (field (.ref it) 0 >>= _) _ _ s
  refine wpAny_bind (wpAny_field ho hd (x := .ref t) rfl ?_)
  show wpAny _ _ (if (Value.ref t == Value.none) = true then _ else _) _ _ s
  rw [if_neg (show ¬ ((Value.ref t == Value.none) = true) from Bool.false_ne_true)]
  show wpAny _ _ (field (.ref it) 1 >>= _) _ _ s
  refine wpAny_bind (wpAny_field ho hd (x := .int i 0) rfl ?_)
  show wpAny _ _ (seqItems? (.ref t) >>= _) _ _ s
  refine wpAny_bind (wpAny_seqItems hol hdl ?_)
  simp only [Int.toNat_natCast, hx]
  refine wpAny_bind (wpAny_setField ho hd (by simp) (wpAny_pure ⟨x, rfl, wpAny_pure (hQ _ ?_ (Heap.SameBut.update ..))⟩))
  exact ⟨_, Heap.get?_update_self _ ho (Obj.isFreed_of_fields (Obj.data_mapFields hd _)), (Obj.cls_mapFields ..).trans hc, by
    rw [Obj.data_mapFields hd]; simp [rawInt]⟩

theorem nextOf_tuple_end {it t : Addr} {i : Nat} {items : Array Value} {Q : Value → Shared → Prop} (hh : A.handled = none)
    (hit : s.heap.IsTupleIter it t i) (ht : s.heap.IsTuple t items) (hx : items[i]? = none)
    (hE : ∀ h' e, Heap.ExtBut it s.heap h' → (∃ o, h'.get? e = some o ∧ o.cls = .type "StopIteration") → E (.ref e) { s with heap := h' }) :
    wpAny (model prog w) A (Builtin.SmallTypes.nextOf (.ref it)) Q E s := by
  obtain ⟨o, ho, hc, hd⟩ := id hit
  obtain ⟨ol, hol, _, nl, hdl⟩ := ht
  unfold Builtin.SmallTypes.nextOf
  refine wpAny_bind (wpAny_callSpecial?_slot (name := Str.ofString "__next__") hit.typeIs F.slot_tuple_iterator_next
    (wpAny_call_entry F.slot_tuple_iterator_next hit.typeIs F.entry_tuple_iterator_next ?_ (F.args_tuple_iterator_next_1 _)))
  show wpAny _ _ (field (.ref it) 0 >>= _) _ _ s
  refine wpAny_bind (wpAny_field ho hd (x := .ref t) rfl ?_)
  show wpAny _ _ (if (Value.ref t == Value.none) = true then _ else _) _ _ s
  rw [if_neg (show ¬ ((Value.ref t == Value.none) = true) from Bool.false_ne_true)]
  show wpAny _ _ (field (.ref it) 1 >>= _) _ _ s
  refine wpAny_bind (wpAny_field ho hd (x := .int i 0) rfl ?_)
  show wpAny _ _ (seqItems? (.ref t) >>= _) _ _ s
  refine wpAny_bind (wpAny_seqItems hol hdl ?_)
  simp only [Int.toNat_natCast, hx]
  refine wpAny_bind (wpAny_rule (wpAny_bind (wpAny_setField ho hd (by simp) ?_)))
  show wpAny _ _ (newExc (.type "StopIteration") [] >>= _) _ _ _
  refine wpAny_bind ?_
  simp only [newExc, newTuple]
  refine wpAny_bind (wpAny_newObj_type ?_ (by size_fits))
  refine wpAny_bind (m := firstArgMember _ _) (wpAny_of_eq (a := Value.none) (by first | rfl | (simp only [firstArgMember]; rfl)) ?_)
  refine wpAny_newObj_type ?_ (by size_fits)
  simp only [raiseNew]
  refine wpAny_bind (wpAny_handled ?_)
  first | rw [show A.in1.handled = none from hh] | rw [hh]
  refine wpAny_bind (wpAny_pure (wpAny_throw ?_))
  exact hE _ _ (((Heap.SameBut.update ..).extBut.push _).push _) ⟨_, Heap.get?_push_size _ rfl, rfl⟩
end

theorem drawsTuple {prog : Program} {w : World} {A : Around} (hh : A.handled = none) (it l : Addr) (hne : l ≠ it) (items : Array Value) :
    Draws prog w A it [it, l] items.size (fun i v => items[i]? = some v) (fun i h => h.IsTupleIter it l i ∧ h.IsTuple l items) where
  live := fun _ _ st => let ⟨o, ho, _⟩ := st.1; ⟨o, ho⟩
  frame := fun _ _ _ st hk => ⟨let ⟨o, ho, r⟩ := st.1; ⟨o, hk it (by simp) o ho, r⟩, let ⟨o, ho, r⟩ := st.2; ⟨o, hk l (by simp) o ho, r⟩⟩
  item := fun i s Q E hi st hQ => by
    refine nextOf_tuple_item st.1 st.2 (x := items[i]) (by simp [hi]) fun h' hit' hs' => ?_
    exact hQ _ h' s.toks (by simp [hi]) ⟨hit', st.2.extBut hs'.extBut hne⟩ hs'
  done := fun s Q E st hE => nextOf_tuple_end hh st.1 st.2 (by simp) hE

theorem not_tp_of_enum {h : Heap} {e it : Addr} {i : Int} {old : Value} (x : IsEnum h e it i old) : ∀ vs, ¬ Tp h e vs :=
  not_tp_of_cls x (by show Value.type "enumerate" ≠ Value.type "tuple"; decide)
theorem not_tp_of_enumOut {h : Heap} {e it a : Addr} {i : Int} {old : Value} (x : IsEnumOut h e it i old a) : ∀ vs, ¬ Tp h e vs :=
  not_tp_of_cls x (by show Value.type "enumerate" ≠ Value.type "tuple"; decide)

section
variable {prog : Program} {w : World} {A : Around} {s : Shared} {h : Heap} {tk : Nat} {E : Value → Shared → Prop} {env : Env}
/-- a for over enumerate of a tuple -/
theorem for_enum {Q : Flow → Shared → Prop} {elts : List Expr} {kt : Nat} {pt : Pos} {body : List Stmt} {e it a : Addr} {vs : List Value} (hh : A.handled = none) (he : IsEnum h e it 0 .none) (hit : h.IsTupleIter it a 0) (T : Tp h a vs) (hei : e ≠ it)
    (M : Addr → Prop) (hM : ∀ b, M b → b ≠ e ∧ b ≠ it ∧ b ≠ a) (J : Nat → Heap → Prop) (j0 : J 0 h) (jst : ∀ i h₁ h₂, J i h₁ → Kx (fun b => b = e ∨ b = it) h₁ h₂ → J i h₂)
    (turn : ∀ (i : Nat) v t b h₁ tk₁, vs[i]? = some v → Tp h₁ b [.int (i : Int) t, v] → J i h₁ → wpAny (model prog w) A (assign (.Tuple elts kt pt) env (.ref b)) (fun _ s₂ => wpAny (model prog w) A (execs body env) (fun f s₃ => match f with
        | .next | .cont => ∃ h' tk', s₃ = Sh s h' tk' ∧ Kx M h₁ h' ∧ J (i + 1) h'
        | .brk => Q .next s₃
        | .ret v => Q (.ret v) s₃) E s₂) E (Sh s h₁ tk₁))
    (done : ∀ h' tk', J vs.length h' → Q .next (Sh s h' tk')) (hE : PassesOwn (model prog w) A env E := by passes_own) :
    wpAny (model prog w) A (pyIter (.ref e)) (fun it' s₂ => codeAny (model prog w) A (.forLoop (.Tuple elts kt pt) it' body [] env) (fun r s' => match r with | .ok f => Q f s' | .error e => cameBackBy (model prog w) A env E e s') s₂) E (Sh s h tk) := by
  have hae : a ≠ e := by rintro rfl; exact not_tp_of_enum he _ T
  have hai : a ≠ it := by rintro rfl; exact not_tp_of_tupleiter hit _ T
  refine wpAny_pyIter_enum he ?_
  have D := drawsTuple (prog := prog) (w := w) (A := A.in1) hh it a hai vs.toArray
  refine codeAny_forLoop_any (fun k s' => ∃ i h' tk' old, s' = Sh s h' tk' ∧ i ≤ vs.length ∧ k = vs.length + 1 - i ∧ IsEnum h' e it (i : Nat) old ∧ h'.IsTupleIter it a i ∧ Tp h' a vs ∧ J i h') ?_ (vs.length + 1)
    ⟨0, h, tk, _, rfl, Nat.zero_le _, rfl, he, hit, T, j0⟩
  rintro k s' ⟨i, h', tk', old, rfl, hi, rfl, he', hit', T', j'⟩
  by_cases hlt : i < vs.length
  · refine wpAny_pyNext_enum_itemD D he' ⟨hit', T'.isTuple⟩ (by simpa using hlt) hei (by simp [hei, Ne.symm hae]) fun x h₁ tk₁ hP ho st₁ hT hsz hk => ?_
    have k₁ : Kx (fun b => b = e ∨ b = it) h' h₁ := Kx.but (fun b o hb eo => hk b o (fun q => hb (.inl q)) (fun q => hb (.inr q)) eo) fun b vs hb => by
      rcases hb with rfl | rfl
      · exact not_tp_of_enum he' vs
      · exact not_tp_of_tupleiter hit' vs
    refine wpAny_letOwnedTupleGo_enum ho fun h₂ he₂ hs₂ => ?_
    have k₂ : Kx (· = e) h₁ h₂ := Kx.same hs₂ (not_tp_of_enumOut ho)
    have j₂ := jst _ _ _ j' (k₁.trans (k₂.mono fun b hb => .inl hb))
    have T₂ : Tp h₂ h'.objs.size [.int i tk₁, x] := Tp.kx ⟨0, hT⟩ k₂
    have hx : vs[i]? = some x := by simpa using hP
    have hit₂ : h₂.IsTupleIter it a (i + 1) := let ⟨o, ho, r⟩ := st₁.1; ⟨o, k₂.k it o (Ne.symm hei) ho, r⟩
    have Ta₂ : Tp h₂ a vs := (T'.kx k₁).kx k₂
    refine wpAny_passesOwn hE (wpAny_mono (turn i x tk₁ _ h₂ (tk₁ + 1) hx T₂ j₂) (fun _ s₂ x' => wpAny_passesOwn hE (wpAny_mono x' (fun f s₃ y => ?_) fun _ _ z => z)) fun _ _ z => z)
    have conv : (∃ h' tk', s₃ = Sh s h' tk' ∧ Kx M h₂ h' ∧ J (i + 1) h') → ∃ m, m < vs.length + 1 - i ∧ ∃ i h' tk' old, s₃ = Sh s h' tk' ∧ i ≤ vs.length ∧ m = vs.length + 1 - i ∧ IsEnum h' e it (i : Nat) old ∧ h'.IsTupleIter it a i ∧ Tp h' a vs ∧ J i h' := by
      rintro ⟨h₃, tk₃, rfl, k₃, j₃⟩
      refine ⟨vs.length + 1 - (i + 1), by omega, i + 1, h₃, tk₃, x, rfl, hlt, rfl, ?_, ?_, Ta₂.kx k₃, j₃⟩
      · have := k₃.k e _ (fun hm => (hM e hm).1 rfl) he₂
        simpa [IsEnum] using this
      · exact let ⟨o, ho, r⟩ := hit₂; ⟨o, k₃.k it o (fun hm => (hM it hm).2.1 rfl) ho, r⟩
    cases f with
    | next => exact conv y
    | cont => exact conv y
    | brk => exact y
    | ret v => exact y
  · obtain rfl : i = vs.length := by omega
    refine wpAny_pyNext_enum_endD D he' (by simpa using ⟨hit', T'.isTuple⟩) fun h₁ hx => wpAny_execs_nil (done h₁ _ (jst _ _ _ j' ?_))
    exact (Kx.ext hx (not_tp_of_tupleiter hit')).mono fun b hb => .inr hb
end
end Mine

namespace Mine
open AutoSeq1 (wpAny_loadPart')

section
variable {prog : Program} {w : World} {A : Around} {s : Shared} {h : Heap} {tk : Nat} {E : Value → Shared → Prop} {env : Env}

theorem mapSeq_list (its : Array Value) (n : Nat) (f : Array Value → Array Value) : ∃ n', Obj.mapSeq f { cls := .type "list", data := .seq its n } = { cls := .type "list", data := .seq (f its) n' } := ⟨_, rfl⟩
theorem Ls.upd {a : Addr} {vs us : List Value} {f : Array Value → Array Value} (T : Ls h a vs) (e : f vs.toArray = us.toArray) : Ls (h.update a (Obj.mapSeq f)) a us ∧ Kx (· = a) h (h.update a (Obj.mapSeq f)) := by
  have hn := not_tp_of_ls T
  obtain ⟨n, ho⟩ := T
  obtain ⟨n', hm⟩ := mapSeq_list vs.toArray n f
  refine ⟨⟨n', ?_⟩, Kx.same (Heap.SameBut.update ..) hn⟩
  rw [Heap.get?_update_self _ ho (by rw [hm]; rfl), hm, e]

/-- a method of a list's -/
theorem e_lmeth0 {o : Expr} {name : Str} {apos pos : Pos} {id : String} {Q : Value → Shared → Prop} {st : Shared} (slot : Slot "list" name id) (hty : typeOf (.builtin id) = pure (.type "method_descriptor"))
    (hh : wpAny (model prog w) A (eval o env) (fun ov s₁ => ∃ a us, ov = .ref a ∧ Ls s₁.heap a us ∧ wpAny (model prog w) A (call (.builtin id) [.ref a]) Q E s₁) E st)
    (hbase : attributeBase o name env (eval o env) = eval o env := by rfl) (hline : (apos.endLine == pos.line) = true := by rfl) :
    wpAny (model prog w) A (eval (.Call (.Attribute o name apos) [] [] pos) env) Q E st := by
  refine wpAny_Call_method hbase rfl hline F.plainAttrs_list slot hty (wpAny_mono hh (fun ov s₁ ⟨a, us, e, T, x⟩ => ?_) fun _ _ z => z)
  subst e
  refine ⟨T.typeIs, fun a' e => ?_, callWith_method0 x⟩
  cases e; obtain ⟨n, ho⟩ := T; exact ⟨_, ho, rfl⟩
theorem e_lmeth1 {o e : Expr} {name : Str} {apos pos : Pos} {id : String} {Q : Value → Shared → Prop} {st : Shared} (slot : Slot "list" name id) (hty : typeOf (.builtin id) = pure (.type "method_descriptor"))
    (hh : wpAny (model prog w) A (eval o env) (fun ov s₁ => ∃ a us, ov = .ref a ∧ Ls s₁.heap a us ∧ wpAny (model prog w) A (eval e env) (fun v s₂ => wpAny (model prog w) A (call (.builtin id) [.ref a, v]) Q E s₂) E s₁) E st)
    (hbase : attributeBase o name env (eval o env) = eval o env := by rfl) (he : starEach [e] env = [(false, eval e env)] := by rfl) (hline : (apos.endLine == pos.line) = true := by rfl) :
    wpAny (model prog w) A (eval (.Call (.Attribute o name apos) [e] [] pos) env) Q E st := by
  refine wpAny_Call_method hbase (by rw [he]; rfl) hline F.plainAttrs_list slot hty (wpAny_mono hh (fun ov s₁ ⟨a, us, e1, T, x⟩ => ?_) fun _ _ z => z)
  subst e1
  refine ⟨T.typeIs, fun a' e => ?_, callWith_method1 (ar_cons (wpAny_mono x (fun v s₂ y => ar_nil y) fun _ _ z => z) (by rw [he]; rfl)) (by rw [he]; rfl)⟩
  cases e; obtain ⟨n, ho⟩ := T; exact ⟨_, ho, rfl⟩

theorem call_append {a : Addr} {vs : List Value} {v : Value} {Q : Value → Shared → Prop} (T : Ls h a vs) (hsz : vs.length ≤ 100000) (hQ : ∀ h', Ls h' a (vs ++ [v]) → Kx (· = a) h h' → Q .none (Sh s h' tk)) :
    wpAny (model prog w) A (call (.builtin "list.append") [.ref a, v]) Q E (Sh s h tk) := by
  refine wpAny_list_append_plain T.plain (fun h' hl hs => ?_) (by rw [sizeLine_eq]; simp; omega)
  exact hQ h' (by simpa using Ls.ofPlain hl) (Kx.same hs (not_tp_of_ls T))
theorem call_extendL {a b : Addr} {vs us : List Value} {Q : Value → Shared → Prop} (T : Ls h a vs) (T2 : Ls h b us) (hsz : vs.length + us.length ≤ 100000) (hQ : ∀ h', Ls h' a (vs ++ us) → Kx (· = a) h h' → Q .none (Sh s h' tk)) :
    wpAny (model prog w) A (call (.builtin "list.extend") [.ref a, .ref b]) Q E (Sh s h tk) := by
  have T' := T
  obtain ⟨n, ho⟩ := T
  obtain ⟨n2, ho2⟩ := T2
  have hz : vs.toArray.size + us.toArray.size ≤ sizeLine := by rw [sizeLine_eq]; simp; omega
  obtain ⟨l, k⟩ := T'.upd (us := vs ++ us) (f := fun x => x ++ us.toArray) (by simp)
  exact call_meets F.slot_list_extend ⟨_, ho, rfl⟩ F.entry_list_extend (F.args_list_extend_2 _ _) (AutoSeq1.list_extend_list_list_0 a vs.toArray n b us.toArray n2 (extend_door hz) (Nat.le_trans (Nat.le_add_right _ _) hz) (Nat.le_succ_of_le hz)) ⟨ho, ho2, hQ _ l k⟩
theorem call_extendT {a b : Addr} {vs us : List Value} {Q : Value → Shared → Prop} (T : Ls h a vs) (T2 : Tp h b us) (hsz : vs.length + us.length ≤ 100000) (hQ : ∀ h', Ls h' a (vs ++ us) → Kx (· = a) h h' → Q .none (Sh s h' tk)) :
    wpAny (model prog w) A (call (.builtin "list.extend") [.ref a, .ref b]) Q E (Sh s h tk) := by
  have T' := T
  obtain ⟨n, ho⟩ := T
  obtain ⟨n2, ho2⟩ := T2
  have hz : vs.toArray.size + us.toArray.size ≤ sizeLine := by rw [sizeLine_eq]; simp; omega
  obtain ⟨l, k⟩ := T'.upd (us := vs ++ us) (f := fun x => x ++ us.toArray) (by simp)
  exact call_meets F.slot_list_extend ⟨_, ho, rfl⟩ F.entry_list_extend (F.args_list_extend_2 _ _) (AutoSeq1.list_extend_list_tuple_0 a vs.toArray n b us.toArray n2 (extend_door hz) (Nat.le_trans (Nat.le_add_right _ _) hz) (Nat.le_succ_of_le hz)) ⟨ho, ho2, hQ _ l k⟩
theorem call_pop {a : Addr} {vs : List Value} {v : Value} {Q : Value → Shared → Prop} (T : Ls h a (vs ++ [v])) (hsz : vs.length ≤ 100000) (hQ : ∀ h', Ls h' a vs → Kx (· = a) h h' → Q v (Sh s h' tk)) :
    wpAny (model prog w) A (call (.builtin "list.pop") [.ref a]) Q E (Sh s h tk) := by
  have T' := T
  obtain ⟨n, ho⟩ := T
  obtain ⟨l, k⟩ := T'.upd (us := vs) (f := fun xs => xs.eraseIdxIfInBounds ((vs ++ [v]).toArray.size - 1)) (by
    simp [List.eraseIdx_append])
  exact call_meets F.slot_list_pop ⟨_, ho, rfl⟩ F.entry_list_pop (F.args_list_pop_1 _) (MeetsSeq.list_pop_last a _ n v (by simp) (by rw [sizeLine_eq]; simp; omega)) ⟨ho, hQ _ l k⟩

/-- an expression alone -/
theorem x_expr {e : Expr} {pos : Pos} {rest : List Stmt} {Q : Flow → Shared → Prop} {st : Shared}
    (hh : wpAny (model prog w) A (eval e env) (fun v s' => v = .none ∧ wpAny (model prog w) A (execs rest env) Q E s') E st)
    (hi : interactive env = false := by rfl) (hs : swapsWith e none pos.line env = pure false := by rfl) : wpAny (model prog w) A (execs (.Expr e pos :: rest) env) Q E st :=
  wpAny_execs_cons (wpAny_Expr (wpAny_mono hh (fun v s' ⟨e, x⟩ => by subst e; exact x) fun _ _ z => z) hi hs)

/-- t + u -/
theorem add_tp {a b : Addr} {vs us : List Value} {Q : Value → Shared → Prop} (T : Tp h a vs) (T2 : Tp h b us) (hsz : vs.length + us.length ≤ 100000)
    (hQ : ∀ h' c, Tp h' c (vs ++ us) → Kx Non h h' → Q (.ref c) (Sh s h' tk)) : wpAny (model prog w) A (binaryOp .Add (.ref a) (.ref b)) Q E (Sh s h tk) := by
  have T' := T
  have T2' := T2
  obtain ⟨n, ho⟩ := T
  obtain ⟨n2, ho2⟩ := T2
  by_cases hv : vs = []
  · subst hv
    exact concat_meets ⟨_, ho, rfl⟩ ⟨_, ho2, rfl⟩ noFill_tuple_add seq_tuple_add F.slot_tuple_add F.entry_tuple_add (F.args_tuple_add_2 _ _)
      (tuple_addW0 a b _ us.toArray n n2 none none #[] #[] (by simp)) ⟨ho, ho2, hQ h b (by simpa using T2') (Kx.refl _ _)⟩
  · by_cases hu : us = []
    · subst hu
      exact concat_meets ⟨_, ho, rfl⟩ ⟨_, ho2, rfl⟩ noFill_tuple_add seq_tuple_add F.slot_tuple_add F.entry_tuple_add (F.args_tuple_add_2 _ _)
        (tuple_addW1 a b vs.toArray _ n n2 none none #[] #[] (by simpa using hv) (by simp)) ⟨ho, ho2, hQ h a (by simpa using T') (Kx.refl _ _)⟩
    · refine concat_meets ⟨_, ho, rfl⟩ ⟨_, ho2, rfl⟩ noFill_tuple_add seq_tuple_add F.slot_tuple_add F.entry_tuple_add (F.args_tuple_add_2 _ _)
        (tuple_addW2 a b vs.toArray us.toArray n n2 none none #[] #[] (by simpa using hv) (by simpa using hu) (by rw [sizeLine_eq]; simp; omega)) ⟨ho, ho2, ?_⟩
      refine hQ _ _ ?_ (Kx.push _ _)
      have := Tp.newTuple h (vs ++ us)
      simpa using this

/-- t[1:] -/
theorem e_tail {value : Expr} {p1 p2 p3 : Pos} {k : Nat} {Q : Value → Shared → Prop} {st : Shared}
    (hh : wpAny (model prog w) A (eval value env) (fun v s₁ => ∃ a u vs h₁ tk₁, v = .ref a ∧ s₁ = Sh s h₁ tk₁ ∧ Tp h₁ a (u :: vs) ∧ vs.length ≤ 99999 ∧ ∀ h' c tk', Tp h' c vs → h₁.get? c = none → Kx Non h₁ h' → Q (.ref c) (Sh s h' tk')) E st)
    (hs : ∀ (a : Addr) i, subscripted (.Slice (some (.Constant (.int 1) k p1)) none none p2) false (.ref a) i = operate [i, .ref a] (getItem (.ref a) i) := by intro _ _; with_unfolding_all rfl) :
    wpAny (model prog w) A (eval (.Subscript value (.Slice (some (.Constant (.int 1) k p1)) none none p2) p3) env) Q E st := by
  refine Subscript_ (wpAny_mono hh (fun v s₁ ⟨a, u, vs, h₁, tk₁, e1, e2, T, hsz, hQ⟩ => ?_) fun _ _ z => z)
  subst e1 e2
  refine wpAny_Slice (wpAny_evalPart_some (e_int fun t1 tk1 => wpAny_evalPart_none (wpAny_evalPart_none ?_)))
  have T' : Tp (h₁.push { cls := .type "slice", data := .fields #[.int 1 t1, .none, .none] }) a (u :: vs) := T.kx (Kx.push _ _)
  refine tail_any (s := { Sh s h₁ tk1 with heap := h₁.push { cls := .type "slice", data := .fields #[.int 1 t1, .none, .none] } }) T'.typeIs slot_tuple_getitem.lookup
    (getItem_tuple_from (a := 1) (u := t1) T'.isTuple (Heap.IsSliceOf.new ..) (Nat.le_refl _) (by simp) ?_ (by rw [sizeLine_eq]; simp; omega)) (hs _ _)
  have e : ((u :: vs).toArray.toList.drop 1).toArray = vs.toArray := by simp
  rw [e]
  refine hQ _ _ _ (Tp.newTuple _ _) (get_none_of_ge ?_) ((Kx.push _ _).trans (Kx.push _ _))
  show h₁.objs.size ≤ (h₁.push _).objs.size
  rw [Heap.size_push]; exact Nat.le_succ _

/-- tuple(xs) -/
theorem call_tuple {a : Addr} {vs : List Value} {Q : Value → Shared → Prop} (T : Ls h a vs) (hsz : vs.length ≤ 100000) (hQ : ∀ h' c, Tp h' c vs → h.get? c = none → Kx Non h h' → Q (.ref c) (Sh s h' tk)) :
    wpAny (model prog w) A (call (.type "tuple") [.ref a]) Q E (Sh s h tk) := by
  refine call_tuple_list T.isList (fun h' hk => ?_) (by rw [sizeLine_eq]; simp; omega)
  refine hQ _ _ (Tp.newTuple _ _) ?_ ((Kx.ofAll hk).trans (Kx.push _ _))
  cases e : h.get? h'.objs.size with
  | none => rfl
  | some o => exact absurd (Heap.lt_size (hk _ _ e)) (Nat.lt_irrefl _)
end
end Mine

namespace Mine

inductive Tree where
  | node (op : Str) (kids : List Tree)
def Tree.op : Tree → Str | .node o _ => o
def Tree.kids : Tree → List Tree | .node _ k => k

theorem tree_ind {P : Tree → Prop} (step : ∀ op ks, (∀ u ∈ ks, P u) → P (.node op ks)) : ∀ t, P t
  | .node op ks => step op ks fun u _ => tree_ind step u

mutual
def IsT (h : Heap) : Tree → Value → Prop
  | .node op ts, v => ∃ a tk vs, v = .ref a ∧ Tp h a (.str op tk :: vs) ∧ IsTs h ts vs
def IsTs (h : Heap) : List Tree → List Value → Prop
  | [], vs => vs = []
  | t :: ts, vs => ∃ v vs', vs = v :: vs' ∧ IsT h t v ∧ IsTs h ts vs'
end
mutual
theorem IsT.kx {P : Addr → Prop} {h h' : Heap} (k : Kx P h h') : ∀ {t : Tree} {v : Value}, IsT h t v → IsT h' t v
  | .node op ts, v, x => by
    rw [IsT] at x ⊢
    obtain ⟨a, tk, vs, e, T, r⟩ := x
    exact ⟨a, tk, vs, e, T.kx k, IsTs.kx k r⟩
theorem IsTs.kx {P : Addr → Prop} {h h' : Heap} (k : Kx P h h') : ∀ {ts : List Tree} {vs : List Value}, IsTs h ts vs → IsTs h' ts vs
  | [], vs, x => by rw [IsTs] at x ⊢; exact x
  | t :: ts, vs, x => by
    rw [IsTs] at x ⊢
    obtain ⟨v, vs', e, y, r⟩ := x
    exact ⟨v, vs', e, IsT.kx k y, IsTs.kx k r⟩
end
theorem IsTs.length {h : Heap} : ∀ {ts : List Tree} {vs : List Value}, IsTs h ts vs → vs.length = ts.length
  | [], vs, x => by rw [IsTs] at x; subst x; rfl
  | t :: ts, vs, x => by rw [IsTs] at x; obtain ⟨v, vs', e, _, r⟩ := x; rw [e, List.length_cons, List.length_cons, r.length]
theorem IsTs.get {h : Heap} : ∀ {ts : List Tree} {vs : List Value} {i : Nat} {v : Value}, IsTs h ts vs → vs[i]? = some v → ∃ t, ts[i]? = some t ∧ IsT h t v
  | [], vs, i, v, x, e => by rw [IsTs] at x; rw [x] at e; simp at e
  | t :: ts, vs, i, v, x, e => by
    rw [IsTs] at x; obtain ⟨v', vs', e', y, r⟩ := x
    subst e'
    cases i with
    | zero => simp at e; subst e; exact ⟨t, rfl, y⟩
    | succ i => simp at e; obtain ⟨t', a, b⟩ := r.get e; exact ⟨t', by simpa using a, b⟩
theorem IsT.open {h : Heap} {t : Tree} {v : Value} (x : IsT h t v) : ∃ a tk vs, v = .ref a ∧ Tp h a (.str t.op tk :: vs) ∧ IsTs h t.kids vs := by
  cases t with
  | node op ks => rw [IsT] at x; exact x
theorem IsTs.snoc {h : Heap} : ∀ {ts : List Tree} {vs : List Value} {t : Tree} {v : Value}, IsTs h ts vs → IsT h t v → IsTs h (ts ++ [t]) (vs ++ [v])
  | [], vs, t, v, x, y => by
    rw [IsTs] at x; subst x
    show IsTs h [t] [v]
    rw [IsTs]; exact ⟨v, [], rfl, y, by rw [IsTs]⟩
  | t' :: ts, vs, t, v, x, y => by
    rw [IsTs] at x; obtain ⟨v', vs', e', z, r⟩ := x
    subst e'
    show IsTs h (t' :: (ts ++ [t])) (v' :: (vs' ++ [v]))
    rw [IsTs]; exact ⟨v', _, rfl, z, r.snoc y⟩

mutual
def subs : Tree → List Tree
  | .node op ks => .node op ks :: subsL ks
def subsL : List Tree → List Tree
  | [] => []
  | t :: ts => subs t ++ subsL ts
end
mutual
def ht : Tree → Nat
  | .node _ ks => htL ks + 1
def htL : List Tree → Nat
  | [] => 0
  | t :: ts => max (ht t) (htL ts)
end
theorem ht_le_of_mem : ∀ {ts : List Tree} {t : Tree}, t ∈ ts → ht t ≤ htL ts
  | t' :: ts, t, h => by
    rw [htL]
    rcases List.mem_cons.mp h with rfl | h
    · exact Nat.le_max_left _ _
    · exact Nat.le_trans (ht_le_of_mem h) (Nat.le_max_right _ _)
theorem subsL_append (a b : List Tree) : subsL (a ++ b) = subsL a ++ subsL b := by
  induction a with
  | nil => rfl
  | cons t ts ih => show subsL (t :: (ts ++ b)) = _; rw [subsL, ih, subsL, List.append_assoc]
theorem subs_len_pos (t : Tree) : 0 < (subs t).length := by cases t; rw [subs]; simp
theorem subs_le_of_mem : ∀ {ts : List Tree} {t : Tree}, t ∈ ts → (subs t).length ≤ (subsL ts).length
  | t' :: ts, t, h => by
    rw [subsL, List.length_append]
    rcases List.mem_cons.mp h with rfl | h
    · omega
    · have := subs_le_of_mem h; omega
theorem len_le_subsL : ∀ ts : List Tree, ts.length ≤ (subsL ts).length
  | [] => Nat.le_refl _
  | t :: ts => by rw [subsL, List.length_append, List.length_cons]; have := subs_len_pos t; have := len_le_subsL ts; omega
theorem subsL_take_le (ts : List Tree) (i : Nat) : (subsL (ts.take i)).length ≤ (subsL ts).length := by
  conv => rhs; rw [← List.take_append_drop i ts, subsL_append, List.length_append]
  omega

/-- what parts gives -/
def PartV (N : Nat) (h : Heap) (u : Tree) (v : Value) : Prop := ∃ b p path vt, v = .ref b ∧ Tp h b [.ref p, vt] ∧ Tp h p path ∧ path.length ≤ N ∧ IsT h u vt
def PartsV (N : Nat) (h : Heap) (us : List Tree) (vs : List Value) : Prop := Paired (PartV N h) us vs
theorem Paired.mono' {α β : Type} {F G : α → β → Prop} {l : List α} {k : List β} (x : Paired F l k) (h : ∀ a b, F a b → G a b) : Paired G l k := by
  induction x with
  | nil => exact .nil
  | cons a _ ih => exact .cons (h _ _ a) ih
theorem PartV.kx {N : Nat} {P : Addr → Prop} {h h' : Heap} {u : Tree} {v : Value} (x : PartV N h u v) (k : Kx P h h') : PartV N h' u v := by
  obtain ⟨b, p, path, vt, e, T, Tp', hl, i⟩ := x
  exact ⟨b, p, path, vt, e, T.kx k, Tp'.kx k, hl, i.kx k⟩
theorem PartsV.kx {N : Nat} {P : Addr → Prop} {h h' : Heap} {us : List Tree} {vs : List Value} (x : PartsV N h us vs) (k : Kx P h h') : PartsV N h' us vs := Paired.mono' x fun _ _ y => y.kx k
theorem PartV.le {N M : Nat} {h : Heap} {u : Tree} {v : Value} (x : PartV N h u v) (k : N ≤ M) : PartV M h u v := by
  obtain ⟨b, p, path, vt, e, T, Tp', hl, i⟩ := x
  exact ⟨b, p, path, vt, e, T, Tp', Nat.le_trans hl k, i⟩
theorem Paired.get' {α β : Type} {F : α → β → Prop} {l : List α} {k : List β} (x : Paired F l k) : ∀ {i : Nat} {b : β}, k[i]? = some b → ∃ a, l[i]? = some a ∧ F a b := by
  induction x with
  | nil => intro i b e; simp at e
  | cons h _ ih =>
    intro i b e
    cases i with
    | zero => simp at e; subst e; exact ⟨_, rfl, h⟩
    | succ i => simp at e; obtain ⟨a, h1, h2⟩ := ih e; exact ⟨a, by simpa using h1, h2⟩
theorem Paired.app {α β : Type} {F : α → β → Prop} {l l' : List α} {k k' : List β} (x : Paired F l k) (y : Paired F l' k') : Paired F (l ++ l') (k ++ k') := by
  induction x with
  | nil => exact y
  | cons h _ ih => exact .cons h ih

theorem Kx.bs {K : Frag} {h0 h h' : Heap} (k : Kx Non h h') (B : Bs K h0 h) : Bs K h0 h' := B.non k
theorem g_parts {w : World} : nsIn (kf w.params) mainGlobals (Str.ofString "parts") = some (some (.ref 91)) := by k_is
theorem k_parts {w : World} : keepIn (kf w.params) (.ref 91) = true := by k_is
theorem g_enum {w : World} : nsIn (kf w.params) mainGlobals (Str.ofString "enumerate") = some none := by k_is

abbrev PartsSpec (w : World) (h0 : Heap) (t : Tree) : Prop := ∀ {A : Around} {s : Shared} {h : Heap} {tk : Nat} {R : Result → Shared → Prop} {v : Value}, Rm (ht t + 1) A → Bs (kf w.params) h0 h → IsT h t v → (subs t).length ≤ 1000 →
    ht t ≤ 100 → (∀ h' tk' D vs, h.get? D = none → Ls h' D vs → PartsV (ht t) h' (subs t) vs → Kx Non h h' → R (.ok (.ret (.ref D))) (Sh s h' tk')) →
    codeAny (model prg w) A (.call (.ref 91) ⟨[v], []⟩) R (Sh s h tk)

theorem parts_spec {w : World} {h0 : Heap} : ∀ t, PartsSpec w h0 t := by
  refine tree_ind fun op ks ih => ?_
  intro A s h tk R v r B hT hsz hht hR
  rw [ht] at r
  obtain ⟨a, to, kvs, ev, Ta0, ik⟩ := hT.open
  subst ev
  refine enter r B (by k_is) (by k_is) (binds := [(Str.ofString "t", .ref a)]) rfl (by rfl) (fun L h₁ tk₁ hL r₁ B₁ k₁ hm F => ?_)
  have T₁ := IsT.kx k₁ hT
  have hL1 : ∀ b, F.own b → h.get? b = none := fun b hb => get_none_of_ge (hm b hb).1
  refine x_set (e_list (s := s) (ar_cons (e_tuple (s := s) (ar_cons (e_tuple (s := s) (ar_nil ⟨h₁, tk₁, rfl, by simp, fun h₂ t2 k₂ => ?_⟩))))))
  refine ar_cons (nm_L (F.non k₂).ns (v := .ref a) rfl (ar_nil ⟨h₂, tk₁, rfl, by simp, fun h₃ t3 k₃ => ?_⟩))
  refine ar_nil ⟨h₃, tk₁, rfl, by simp, fun h₄ l4 k₄ => ?_⟩
  have F4 := ((F.non k₂).non k₃).non k₄
  have hD : ∀ b, F.own b → b < h₃.objs.size := fun b hb => ((F.non k₂).non k₃).lt hb
  refine st_L F4 fun h₅ tk₅ F₅ k₅ => ?_
  have kk4 : Kx Non h h₄ := ((k₁.trans k₂).trans k₃).trans k₄
  have kk5 : Kx Non h h₅ := kk4.more k₅ fun b hb => hL1 b (.inl hb)
  have l5 : Ls h₅ h₃.objs.size [.ref h₂.objs.size] := l4.kx k₅ fun e => absurd (hD _ (.inl rfl)) (e ▸ Nat.lt_irrefl _)
  have i5 := IsT.kx kk5 hT
  have p0 : PartsV (ht (.node op ks)) h₅ [.node op ks] [.ref h₂.objs.size] := .cons ⟨_, _, [], .ref a, rfl, (t3.kx k₄).kx k₅, (((t2.kx k₃).kx k₄).kx k₅), Nat.zero_le _, i5⟩ .nil
  have Ta : Tp h₅ a (.str op to :: kvs) := Ta0.kx kk5
  have hkl : kvs.length ≤ 1000 := by
    have := ik.length
    have h1 : ks.length ≤ (subsL ks).length := len_le_subsL ks
    have h2 : (subs (.node op ks)).length = (subsL ks).length + 1 := by rw [subs]; rfl
    show kvs.length ≤ 1000
    rw [this]; show ks.length ≤ 1000; omega
  have hsub : ∀ (i : Nat) u, ks[i]? = some u → (subsL (ks.take (i + 1))) = subsL (ks.take i) ++ subs u := fun i u hu => by
    rw [List.take_add_one, hu, subsL_append]; simp [subsL]
  have hszL : (subs (.node op ks)).length = (subsL ks).length + 1 := by rw [subs]; rfl
  refine x_for (Call_ (nm_B (kk5.bs B) g_enum (v := .type "enumerate") (by boot_by_name) (callWith_type1 (ar_cons (e_tail (nm_L F₅.ns (v := .ref a) rfl ⟨a, _, kvs, h₅, tk₅, rfl, rfl, Ta, by omega, fun h₆ c tk₆ tc hc k₆ => ?_⟩))))))
  refine ar_nil (call_enum_tp tc fun h₇ he hit k₇ => ?_)
  have F₆ := F₅.non k₆
  have hD6 : h₃.objs.size < h₆.objs.size := (l5.kx k₆ fun h => h).lt
  have kk7 := (kk5.trans k₆).trans k₇
  refine for_enum r₁.h he hit (tc.kx k₇) (Nat.succ_ne_self _) (fun b => F.own b ∨ b = h₃.objs.size) (fun b hb => ?_)
    (fun i h' => ∃ m' cm', Fx _ m' cm' h' ∧ m' (Str.ofString "found") = some (.ref h₃.objs.size) ∧ (∃ vs, Ls h' h₃.objs.size vs ∧ PartsV (ht (.node op ks)) h' (.node op ks :: subsL (ks.take i)) vs) ∧ Kx Non h h')
    ⟨_, _, F₆.non k₇, rfl, ⟨_, (l5.kx k₆ fun h => h).kx k₇ fun h => h, by simpa [subsL] using (p0.kx k₆).kx k₇⟩, kk7⟩ ?_ ?_ ?_
  · rcases hb with hb | rfl
    · have h6 := F₆.lt hb
      refine ⟨Nat.ne_of_lt (Nat.lt_succ_of_lt h6), Nat.ne_of_lt h6, ?_⟩
      rintro rfl
      obtain ⟨o, ho⟩ := F₅.live hb
      rw [hc] at ho; cases ho
    · refine ⟨Nat.ne_of_lt (Nat.lt_succ_of_lt hD6), Nat.ne_of_lt hD6, ?_⟩
      rintro rfl
      obtain ⟨n, e⟩ := l5
      rw [hc] at e; cases e
  · rintro i h8 h9 ⟨m', cm', F', e', ⟨vs, l, pv⟩, kk⟩ k
    have hne : ∀ b, b < h₆.objs.size → ¬ (b = h₆.objs.size + 1 ∨ b = h₆.objs.size) := fun b hb e => by
      rcases e with e | e
      · exact absurd hb (e ▸ Nat.not_lt.mpr (Nat.le_succ _))
      · exact absurd hb (e ▸ Nat.lt_irrefl _)
    refine ⟨m', cm', F'.kx k fun b hb hm' => hne b (F₆.lt hm') hb, e', ⟨vs, l.kx k (hne _ hD6), pv.kx k⟩, kk.more k fun b hb => (kk5.trans k₆).gone_ge (by rcases hb with rfl | rfl; exact Nat.le_succ _; exact Nat.le_refl _)⟩
  · rintro i v t b h8 tk8 hv tb ⟨m', cm', F', e', ⟨vs, l, pv⟩, kk⟩
    refine as_T2 r₁.h tb fun h9 k9 => as_C (F'.non k9) fun h10 tk10 F10 k10 => as_L F10 fun h11 tk11 F11 k11 => ?_
    have m89 : Kx (fun b => F.own b ∨ b = h₃.objs.size) h8 h11 := (k9.ofNon.trans (k10.mono fun b hb => .inl (.inr ⟨Str.ofString "k", by rw [hb]; exact mem_of_lookup (by rfl)⟩))).trans (k11.mono fun b hb => .inl (.inl hb))
    have kk11 : Kx Non h h11 := ((kk.trans k9).more k10 fun b hb => hL1 b (.inr ⟨Str.ofString "k", by rw [hb]; exact mem_of_lookup (by rfl)⟩)).more k11 fun b hb => hL1 b (.inl hb)
    have hDn : ∀ b, F.own b → h₃.objs.size ≠ b := fun b hb => Nat.ne_of_gt (hD b hb)
    have kD : ∀ b, (F.own b ∨ b = h₃.objs.size) → h.get? b = none := fun b hb => hb.elim (hL1 b) fun e => ((k₁.trans k₂).trans k₃).gone_ge (Nat.le_of_eq e.symm)
    have l11 : Ls h11 h₃.objs.size vs := ((l.kx k9 fun h => h).kx k10 (hDn _ (.inr ⟨Str.ofString "k", mem_of_lookup (by rfl)⟩))).kx k11 (hDn _ (.inl rfl))
    obtain ⟨u, hu, iu⟩ := ik.get hv
    have hum : u ∈ ks := List.mem_of_getElem? hu
    have iu11 : IsT h11 u v := iu.kx kk11
    have hus : (subs u).length ≤ (subsL ks).length := subs_le_of_mem hum
    have hbound : vs.length + (subs u).length ≤ 1000 := by
      have h1 := Paired.length pv
      have h2 := subsL_take_le ks (i + 1)
      rw [hsub i u hu, List.length_append] at h2
      rw [← h1]
      show (subsL (ks.take i)).length + 1 + _ ≤ _
      omega
    refine x_expr (e_lmeth1 PySem.F.slot_list_extend PySem.F.type_list_extend (nm_L F11.ns (v := .ref h₃.objs.size) ((if_neg (by decide)).trans e') ⟨_, vs, rfl, l11, comp_W (s := s) (cl := [(Str.ofString "k", L + 1)]) rfl (by decide) (by decide)
      (Call_ (nm_K (kk11.bs B) g_parts (cw_K k_parts (ar_cons (nm_L F11.ns (v := v) (by simp) (ar_nil ⟨kk11.bs B, wpAny_call (ih u hum (r₁.le (Nat.succ_le_succ (ht_le_of_mem hum))) (kk11.bs B) iu11 (by omega) (Nat.le_trans (Nat.le_of_lt (Nat.lt_succ_of_le (ht_le_of_mem hum))) (by rw [ht] at hht; exact hht)) fun h12 tk12 D2 ws hD2 l12 pw k12 => ?_)⟩))))))⟩))
    have kk12 := kk11.trans k12
    have F12 := F11.non k12
    have pw1 : PartsV (ht u) h12 (subs u) ws := pw
    have hwl : ws.length = (subs u).length := (Paired.length pw).symm
    have hhu : ht u + 1 ≤ ht (.node op ks) := by rw [ht]; exact Nat.succ_le_succ (ht_le_of_mem hum)
    have cell : h12.IsCell (L + 1) (some (.int (i : Int) t)) := by
      have := F12.cell (Str.ofString "k") (L + 1) (by rfl)
      simpa using this
    refine ca_ls2 r₁.h l12 (by omega) (fun v' hv' => ?_) Non (fun b hb => hb.elim) (fun j ys h' => h'.IsCell (L + 1) (some (.int (i : Int) t)) ∧ PartsV (ht u) h' (subs u) ws ∧ PartsV (ht (.node op ks)) h' ((subs u).take j) ys)
      ⟨cell, pw1, .nil⟩ (fun j ys h' h'' ⟨q1, q2, q3⟩ k => ⟨?_, q2.kx k, q3.kx k⟩) (by decide) (fun j b' ys h' hb' ⟨q1, q2, q3⟩ => ?_) (fun j b' p1 v1 ys h13 tk13 m13 hb' tb' ⟨q1, q2, q3⟩ n13 e1 e2 => ?_) (fun ys h13 tk13 D3 hD3 ⟨q1, q2, q3⟩ l13 k13 => ?_)
    · obtain ⟨_, _, b', _, _, _, e, _⟩ := Paired.get' pw (List.mem_iff_getElem?.mp hv' |>.choose_spec)
      exact ⟨b', e⟩
    · refine Cell.kx q1 k fun hb => ?_
      have := F12.lt (b := L + 1) (.inr ⟨Str.ofString "k", mem_of_lookup (by rfl)⟩)
      exact absurd this (Nat.not_lt.mpr hb.1)
    · obtain ⟨u', _, b'', p', path, vt, e, tb', _⟩ := Paired.get' q2 hb'
      cases e
      exact ⟨_, _, tb'⟩
    · obtain ⟨u', hu', b'', p', path, vt, e, tb'', tpath, hpl, iu'⟩ := Paired.get' q2 hb'
      cases e
      have := tb'.inj tb''
      cases this
      refine wpAny_tests_nil ?_
      rw [if_pos rfl]
      refine e_tuple (s := s) (ar_cons (wpAny_BinOp (e_tuple (s := s) (ar_cons (nm_C q1 (ar_nil ⟨h13, tk13, rfl, by simp, fun h14 t14 k14 => nm_L (Ns.kx n13 k14 fun h => h) e1 (add_tp t14 (tpath.kx k14) (by simp; omega) fun h15 c15 t15 k15 => ?_)⟩))))))
      refine ar_cons (nm_L (Ns.kx n13 (k14.trans k15) fun h => h) e2 (ar_nil ⟨h15, tk13, rfl, by simp, fun h16 t16 k16 => ?_⟩))
      have k13 := (k14.trans k15).trans k16
      refine ⟨h16, tk13, rfl, k13, Cell.kx q1 k13 fun h => h, q2.kx k13, ?_⟩
      rw [List.take_add_one, hu']
      refine Paired.app (q3.kx k13) (.cons ⟨_, c15, _, _, rfl, t16, t15.kx k16, by simp; omega, iu'.kx k13⟩ .nil)
    · have hys : ys.length = (subs u).length := by
        have := Paired.length q3
        rw [List.length_take] at this
        rw [← this, hwl]; omega
      have l13' : Ls h13 h₃.objs.size vs := (l11.kx k12 fun h => h).kx k13 fun h => h
      refine call_extendL l13' l13 (by omega) fun h14 l14 k14 => ⟨rfl, wpAny_execs_nil ⟨h14, tk13, rfl, ?_, _, _, (F12.non k13).kx k14 (fun b hb hm' => hDn b hm' hb.symm), (if_neg (by decide)).trans e', ⟨_, l14, ?_⟩, ?_⟩⟩
      · exact (m89.trans ((k12.trans k13).ofNon)).trans (k14.mono fun b hb => .inr hb)
      · rw [hsub i u hu]
        have a1 : PartsV (ht (.node op ks)) h14 (.node op ks :: subsL (ks.take i)) vs := ((pv.kx m89).kx (k12.trans k13)).kx k14
        have a2 : PartsV (ht (.node op ks)) h14 (subs u) ys := by
          have : (subs u).take ws.length = subs u := by rw [hwl, List.take_length]
          rw [this] at q3; exact q3.kx k14
        exact Paired.app a1 a2
      · exact (kk12.trans k13).more k14 fun b hb => kD b (.inr hb)
  · rintro h' tk' ⟨m', cm', F', e', ⟨vs, l, pv⟩, kk⟩
    refine x_ret (nm_L F'.ns e' ?_)
    refine hR h' tk' _ vs ?_ l ?_ kk
    · exact ((k₁.trans k₂).trans k₃).gone_ge (Nat.le_refl _)
    · rw [subs]
      have : kvs.length = ks.length := ik.length
      rw [this, List.take_length] at pv
      exact pv
end Mine

namespace Mine

section
variable {M : Model} {A : Around} {E : Value → Shared → Prop} {s : Shared}
theorem wpAny_choose {src : Source} {n : Nat} {Q : Nat → Shared → Prop} (hn : n ≠ 0) (h : ∀ i d, i < n → Q i { s with drawn := d }) : wpAny M A (choose src n) Q E s := fun Γ p _ => by
  show Sem.wp M Γ (Sem.choose src n Sem.pure) _ _ p s
  rw [Sem.wp_choose]
  exact ⟨hn, h _ _ (Nat.mod_lt _ (Nat.pos_of_ne_zero hn))⟩
theorem erase_perm {α : Type} {xs : List α} {i : Nat} {x : α} (e : xs[i]? = some x) : (x :: xs.eraseIdx i).Perm xs := by
  induction xs generalizing i with
  | nil => simp at e
  | cons y ys ih =>
    cases i with
    | zero => simp at e; subst e; simp
    | succ i => simp at e; rw [List.eraseIdx_cons_succ]; exact (List.Perm.swap y x _).trans ((ih e).cons y)
theorem wpAny_drawOrder {α : Type} : ∀ (n : Nat) (xs : List α) (s : Shared) {Q : List α → Shared → Prop}, xs.length = n → (∀ ys d, ys.Perm xs → Q ys { s with drawn := d }) → wpAny M A (drawOrder n xs) Q E s
  | 0, xs, s, Q, hn, h => by
    have : xs = [] := List.length_eq_zero_iff.mp hn
    subst this
    unfold drawOrder
    exact wpAny_pure (h [] s.drawn .nil)
  | n + 1, [], s, Q, hn, h => by simp at hn
  | n + 1, x :: xs, s, Q, hn, h => by
    unfold drawOrder
    refine wpAny_bind (wpAny_choose (by simp) fun i d hi => ?_)
    have e : (x :: xs)[i]? = some (x :: xs)[i] := List.getElem?_eq_getElem hi
    rw [e]
    dsimp only
    have hl : ((x :: xs).eraseIdx i).length = n := by rw [List.length_eraseIdx_of_lt hi]; simp at hn ⊢; exact hn
    refine wpAny_bind (wpAny_drawOrder n _ _ hl fun ys d' hp => wpAny_pure (h _ d' ?_))
    exact (hp.cons _).trans (erase_perm e)
theorem pick_go {α : Type} (next : Nat → Nat) : ∀ (fuel k : Nat) (left : List α) (out : Array α), left.length = fuel → (pickOrder.go next fuel k left out).toList.Perm (out.toList ++ left)
  | 0, k, left, out, h => by
    have : left = [] := List.length_eq_zero_iff.mp h
    subst this
    rw [pickOrder.go, List.append_nil]
  | fuel + 1, k, left, out, h => by
    have hlt : next k % left.length < left.length := Nat.mod_lt _ (by omega)
    have e : left[next k % left.length]? = some left[next k % left.length] := List.getElem?_eq_getElem hlt
    rw [pickOrder.go, e]
    dsimp only
    refine (pick_go next fuel (k + 1) _ _ (by rw [List.length_eraseIdx_of_lt hlt]; omega)).trans ?_
    rw [Array.toList_push, List.append_assoc]
    exact List.Perm.append_left _ (erase_perm e)
theorem pick_perm {α : Type} (next : Nat → Nat) (xs : Array α) : (pickOrder next xs).toList.Perm xs.toList := by
  unfold pickOrder
  simpa using pick_go next xs.size 0 xs.toList #[] (by simp)
end

theorem put_led (t : SetTable) (j : Nat) : (t.put j).1.led = t.led := rfl
theorem put_plain (t : SetTable) (j : Nat) : (t.put j).1.plain = t.plain := rfl
theorem orStandIn_led (t : SetTable) (n : Nat) : (t.orStandIn n).led = t.led := by unfold SetTable.orStandIn; split <;> rfl
theorem layNew_led (t : SetTable) (es : Array (Int × Value)) (h : Int) (x : Value) : (layNew t es h x).2.1.led = t.led := by
  unfold layNew
  split
  · rw [orStandIn_led]; rfl
  · rfl
theorem relaid_same {t t' : SetTable} {hs : Array Int} {n : Nat} {o : Array Nat} (h : t.relaid hs n = some (t', o)) : t'.led = t.led ∧ t'.plain = t.plain := by
  unfold SetTable.relaid SetTable.laid at h
  cases e : SetTable.layClean (SetTable.sizeAbove n - 1) hs with
  | none => rw [e] at h; cases h
  | some v => rw [e] at h; cases h; exact ⟨rfl, rfl⟩
theorem relayAll_same (t : SetTable) (es : Array (Int × Value)) (n : Nat) (hp : t.plain = false) : (relayAll t es n).2.1.led = t.led ∧ (relayAll t es n).2.1.plain = false := by
  unfold relayAll
  split
  · rename_i t' o e
    dsimp only
    split
    · exact ⟨(relaid_same e).1, (relaid_same e).2.trans hp⟩
    · exact ⟨rfl, rfl⟩
  · exact ⟨rfl, rfl⟩

abbrev sObj (es : Array (Int × Value)) (ep : Nat) (t : SetTable) : Obj := { cls := .type "set", dict := none, data := .set es ep t }
/-- a set of texts, in the order of their coming -/
structure SetXE (w : World) (es : Array (Int × Value)) (t : SetTable) (ks : List Str) : Prop where
  el : ElemsOf (strKind prg w) es.toList
  pm : (es.toList.map fun e => strOf e.2).Perm ks
  bd : es.size < scanBound
  fits : t.fits es.size = true
  led : t.led = !w.params.followText "set-order"
  pl : 0 < es.size → t.plain = false
def SetX (w : World) (h : Heap) (a : Addr) (ks : List Str) : Prop := ∃ es ep t, h.get? a = some (sObj es ep t) ∧ SetXE w es t ks

theorem isStrOf_iff {k : Str} {v : Value} {p : Program} {w : World} : (strKind p w).is k v = true ↔ ∃ t, v = .str k t :=
  ⟨Value.isStrOf_shape, fun ⟨t, e⟩ => by subst e; exact strKind_is _ _ _ _⟩
theorem SetXE.mem {w : World} {es : Array (Int × Value)} {t : SetTable} {ks : List Str} (x : SetXE w es t ks) (k : Str) : k ∈ ks ↔ ∃ e ∈ es.toList, (strKind prg w).is k e.2 = true := by
  rw [← x.pm.mem_iff, List.mem_map]
  constructor
  · rintro ⟨e, he, hk⟩
    obtain ⟨⟨k', hk', _⟩, _⟩ := x.el e he
    obtain ⟨t', e'⟩ := isStrOf_iff.mp hk'
    refine ⟨e, he, isStrOf_iff.mpr ⟨t', ?_⟩⟩
    rw [← hk, e']; rfl
  · rintro ⟨e, he, hk⟩
    obtain ⟨t', e'⟩ := isStrOf_iff.mp hk
    exact ⟨e, he, by rw [e']; rfl⟩

section
variable {w : World} {A : Around} {E : Value → Shared → Prop} {s : Shared}

theorem store_at {h : Heap} {a : Addr} {es : Array (Int × Value)} {ep : Nat} {t : SetTable} (ho : h.get? a = some (sObj es ep t)) (es' : Array (Int × Value)) (t' : SetTable) :
    (h.update a (Obj.putSet es' t')).get? a = some (sObj es' (ep + 1) t') := by
  have := Heap.get?_update_self (Obj.putSet es' t') ho (by rw [putSet_of (es := es) (ep := ep) (t := t) es' t' rfl]; rfl)
  rw [putSet_of (es := es) (ep := ep) (t := t) es' t' rfl] at this
  exact this

theorem setX_add {a : Addr} {ks : List Str} {x : Str} {tok : Tok} {Q : Bool → Shared → Prop} (hS : SetX w s.heap a ks) (hroom : ks.length + 1 < scanBound)
    (h : ∀ b h', Heap.SameBut a s.heap h' → SetX w h' a (if x ∈ ks then ks else ks ++ [x]) → Q b { s with heap := h' }) :
    wpAny (model prg w) A (setAddHashed a (.str x tok) (hashStr w x)) Q E s := by
  obtain ⟨es, ep, t, ho, X⟩ := hS
  have hn : es.size = ks.length := by rw [← Array.length_toList, ← X.pm.length_eq, List.length_map]
  have hb1 : es.size + 1 < scanBound := by rw [hn]; exact hroom
  have hkey := strKind_is prg w x tok
  have hash : (strKind prg w).hash x = hashStr w x := rfl
  unfold setAddHashed setAddHashedIn
  refine wpAny_holding (wpAny_bind (wpAny_setState_of ho rfl X.fits ?_))
  dsimp only
  rw [byScan_of rfl X.bd X.el]
  simp only [↓reduceIte]
  unfold setAddByScan
  refine wpAny_bind ?_
  refine wpAny_bind (wpAny_rule ?_)
  rw [← hash]
  refine wpAny_bind (wpAny_setScan_of hkey ho rfl X.fits X.el ?_)
  cases hr : List.findIdx? (fun e => (strKind prg w).is x e.2) es.toList with
  | some j =>
    dsimp only
    obtain ⟨hj, hpj, _⟩ := List.findIdx?_eq_some_iff_getElem.mp hr
    have hx : x ∈ ks := (X.mem x).mpr ⟨es.toList[j], List.getElem_mem hj, hpj⟩
    refine wpAny_pure (wpAny_pure ?_)
    have := h false s.heap (Heap.SameBut.refl a s.heap) (by rw [if_pos hx]; exact ⟨es, ep, t, ho, X⟩)
    exact this
  | none =>
    dsimp only
    have hx : x ∉ ks := fun hk => by
      obtain ⟨e, he, hp⟩ := (X.mem x).mp hk
      have := List.findIdx?_eq_none_iff.mp hr e he
      rw [hp] at this; exact Bool.noConfusion this
    rw [if_neg hx] at h
    have hgw : ∀ (b : Bool) {s₁ : Shared} {Q' : Unit → Shared → Prop}, Q' () s₁ → wpAny (model prg w) A (match b with | true => rule "set.scan.the-table-gave-way" | false => pure ()) Q' E s₁ :=
      fun b s₁ Q' hq => by cases b <;> first | exact wpAny_pure hq | exact wpAny_rule hq
    have hperm := layNew_perm t es ((strKind prg w).hash x) (.str x tok)
    have hfits := layNew_fits t es ((strKind prg w).hash x) (.str x tok)
    have hled := layNew_led t es ((strKind prg w).hash x) (.str x tok)
    generalize hL : layNew t es ((strKind prg w).hash x) (.str x tok) = L at hperm hfits hled ⊢
    obtain ⟨es1, t1, wasDummy, gave⟩ := L
    dsimp only at hperm hfits hled ⊢
    rw [Array.toList_push] at hperm
    have hel1 : ElemsOf (strKind prg w) es1.toList := (X.el.push hkey rfl).perm hperm
    have hpm1 : (es1.toList.map fun e => strOf e.2).Perm (ks ++ [x]) := by
      refine (hperm.map _).trans ?_
      rw [List.map_append]
      exact List.Perm.append_right _ X.pm
    have hsz1 : es1.size = es.size + 1 := by rw [← Array.length_toList, hperm.length_eq, List.length_append, Array.length_toList]; rfl
    have hb1' : es1.size < scanBound := by rw [hsz1]; exact hb1
    refine wpAny_bind (hgw _ ?_)
    have fin : ∀ t2 : SetTable, t2.fits es1.size = true → t2.led = t1.led → t2.plain = false → wpAny (model prg w) A (do
        storeSet a es1 t2
        if (!wasDummy && t2.tooFull) = true then do
            (match (relayAll t2 es1 (SetTable.grown es1.size)).2.2 with | true => rule "set.scan.the-table-gave-way" | false => pure ())
            storeSet a (relayAll t2 es1 (SetTable.grown es1.size)).1 (relayAll t2 es1 (SetTable.grown es1.size)).2.1
            pure (some true)
          else pure (some true)) (fun r s' => wpAny (model prg w) A (match r with | some added => pure added | none => setAddHashedIn a (.str x tok) ((strKind prg w).hash x) 99999) Q E s') E s := by
      intro t2 hf2 hl2 hp2
      refine wpAny_bind (wpAny_storeSet_of ho rfl ?_ (fits_of_scanBound hb1'))
      have ho1 := store_at ho es1 t2
      have hsb1 := Heap.SameBut.update s.heap a (Obj.putSet es1 t2)
      split
      · have hp := relayAll_perm t2 es1 (SetTable.grown es1.size)
        have hfr := relayAll_fits t2 es1 (SetTable.grown es1.size)
        have hsame := relayAll_same t2 es1 (SetTable.grown es1.size) hp2
        generalize hRl : relayAll t2 es1 (SetTable.grown es1.size) = Rl at hp hfr hsame ⊢
        obtain ⟨es2, t3, gave2⟩ := Rl
        dsimp only at hp hfr hsame ⊢
        have hsz : es2.size = es1.size := by rw [← Array.length_toList, hp.length_eq, Array.length_toList]
        refine wpAny_bind (hgw _ ?_)
        refine wpAny_bind (wpAny_storeSet_of ho1 rfl ?_ (fits_of_scanBound (by rw [hsz]; exact hb1')))
        refine wpAny_pure (wpAny_pure (h true _ (hsb1.trans (Heap.SameBut.update _ a _)) ⟨es2, ep + 1 + 1, t3, store_at ho1 es2 t3, hel1.perm hp, (hp.map _).trans hpm1, by rw [hsz]; exact hb1', hfr, ?_, fun _ => hsame.2⟩))
        rw [hsame.1, hl2, hled, X.led]
      · exact wpAny_pure (wpAny_pure (h true _ hsb1 ⟨es1, ep + 1, t2, ho1, hel1, hpm1, hb1', hf2, by rw [hl2, hled, X.led], fun _ => hp2⟩))
    split
    · refine wpAny_bind ?_
      rw [hashByValue_scannable 8 (x := .str x tok) rfl]
      refine wpAny_pure ?_
      exact fin { t1 with plain := false } (SetTable.fits_plain_off hfits) rfl rfl
    · rename_i hp
      refine wpAny_bind (wpAny_pure ?_)
      simp only [↓reduceIte]
      exact fin t1 hfits rfl (by simpa using hp)
end
end Mine

namespace Mine

theorem snoc_ind {α : Type} {P : List α → Prop} (h0 : P []) (h1 : ∀ xs x, P xs → P (xs ++ [x])) (xs : List α) : P xs := by
  have : ∀ l : List α, P l.reverse := fun l => by
    induction l with
    | nil => exact h0
    | cons x l ih => rw [List.reverse_cons]; exact h1 _ _ ih
  simpa using this xs.reverse

/-- the texts, each once, as they come -/
def onceStep (ks : List Str) (x : Str) : List Str := if x ∈ ks then ks else ks ++ [x]
def once (xs : List Str) : List Str := xs.foldl onceStep []
theorem once_snoc (xs : List Str) (x : Str) : once (xs ++ [x]) = onceStep (once xs) x := by simp [once, List.foldl_append]
theorem once_len (xs : List Str) : (once xs).length ≤ xs.length := by
  induction xs using snoc_ind with
  | h0 => exact Nat.le_refl _
  | h1 xs x ih =>
    rw [once_snoc]; unfold onceStep
    split
    · simp; omega
    · simp; omega
theorem once_nodup (xs : List Str) : (once xs).Nodup := by
  induction xs using snoc_ind with
  | h0 => exact List.nodup_nil
  | h1 xs x ih =>
    rw [once_snoc]; unfold onceStep
    split
    · exact ih
    · rename_i hx
      rw [List.nodup_append]
      exact ⟨ih, by simp, fun a ha b hb => by rw [List.mem_singleton.mp hb]; rintro rfl; exact hx ha⟩
theorem mem_once (xs : List Str) (y : Str) : y ∈ once xs ↔ y ∈ xs := by
  induction xs using snoc_ind with
  | h0 => rfl
  | h1 xs x ih =>
    rw [once_snoc]; unfold onceStep
    split
    · rename_i hx
      rw [List.mem_append, ih]
      constructor
      · exact .inl
      · rintro (h | h)
        · exact h
        · rw [List.mem_singleton] at h; subst h; exact ih.mp hx
    · simp [ih]

section
variable {w : World} {A : Around} {E : Value → Shared → Prop} {s : Shared} {R : Result → Shared → Prop}

theorem SetX.kx {h h' : Heap} {a : Addr} {ks : List Str} (x : SetX w h a ks) (k : ∀ o, h.get? a = some o → h'.get? a = some o) : SetX w h' a ks :=
  let ⟨es, ep, t, ho, r⟩ := x; ⟨es, ep, t, k _ ho, r⟩
theorem StrVals.at {xs : List Str} {vs : List Value} (hv : StrVals xs vs) {i : Nat} {v : Value} (e : vs[i]? = some v) : ∃ x t, xs[i]? = some x ∧ v = .str x t := by
  obtain ⟨x, hx, t, ht⟩ := Paired.get' hv e
  exact ⟨x, t, hx, ht⟩

theorem set_loop {I : Addr} {fp wr : List Addr} {n : Nat} {P : Nat → Value → Prop} {St : Nat → Heap → Prop} (W : Walks prg w A.in1 I fp wr n P St) (S : Addr) (hSf : S ∉ fp) (xs : List Str) (hn : n = xs.length)
    (hval : ∀ i v, P i v → ∃ x t, xs[i]? = some x ∧ v = .str x t) (hb : n + 1 < scanBound) :
    ∀ (k i : Nat) (s : Shared), n - i = k → i ≤ n → St i s.heap → SetX w s.heap S (once (xs.take i)) →
      (∀ h' tk', SetX w h' S (once xs) → (∀ b o, b ≠ S → b ∉ wr → s.heap.get? b = some o → h'.get? b = some o) → R (.ok (.ret .none)) { s with heap := h', toks := tk' }) →
      codeAny (model prg w) A (.builtin "set.update.loop" ⟨[.ref S, .ref I], []⟩) R s := by
  have hSw : S ∉ wr := fun h => hSf (W.sub _ h)
  intro k
  induction k with
  | zero =>
    intro i s hk hi hst hS hR
    have hin : i = n := by omega
    subst hin
    refine codeAny_builtin F.entry_set_update_loop ?_
    rw [Around.under_plainId F.plain_set_update_loop _]
    show wpAny _ A.in1 (pyNext (.ref I) >>= _) _ _ s
    refine wpAny_bind (W.done s _ _ hst fun h' tk' hm => ?_)
    show wpAny _ A.in1 (ret Value.none) _ _ _
    refine wpAny_pure (hR h' tk' ?_ fun b o _ hw e => hm b o hw e)
    rw [List.take_of_length_le (by omega)] at hS
    exact hS.kx fun o e => hm S o hSw e
  | succ k ih =>
    intro i s hk hi hst hS hR
    have hlt : i < n := by omega
    refine codeAny_builtin F.entry_set_update_loop ?_
    rw [Around.under_plainId F.plain_set_update_loop _]
    show wpAny _ A.in1 (pyNext (.ref I) >>= _) _ _ s
    refine wpAny_bind (W.item i s _ _ hlt hst fun v h₁ tk₁ hP hst₁ hm => ?_)
    obtain ⟨x, t, hx, rfl⟩ := hval i v hP
    have hS₁ : SetX w h₁ S (once (xs.take i)) := hS.kx fun o e => hm S o hSw e
    show wpAny _ A.in1 (holding [Value.str x t] (setAdd S (.str x t)) >>= _) _ _ _
    refine wpAny_bind (wpAny_holding ?_)
    unfold setAdd
    refine wpAny_holding ?_
    refine wpAny_bind ((strKind prg w).pyHash (k := x) (strKind_is _ _ _ _) ?_)
    have hroom : (once (xs.take i)).length + 1 < scanBound := by have := once_len (xs.take i); simp at this; omega
    refine setX_add (s := { s with heap := h₁, toks := tk₁ + 1 }) hS₁ hroom fun b h₂ hsb hS₂ => ?_
    have e2 : (if x ∈ once (xs.take i) then once (xs.take i) else once (xs.take i) ++ [x]) = once (xs.take (i + 1)) := by
      rw [List.take_add_one, hx]
      show onceStep _ x = _
      rw [Option.toList_some, once_snoc]
    rw [e2] at hS₂
    refine wpAny_pure ⟨plainId_quiet F.plain_set_update_loop _, ih (i + 1) _ (by omega) hlt (W.frame _ _ _ hst₁ fun b hb o e => ?_) hS₂ fun h₃ tk₃ hS₃ hk₃ => ?_⟩
    · show h₂.get? b = some o
      rw [hsb.2 b (fun h : b = S => hSf (by rw [← h]; exact hb))]; exact e
    · refine hR h₃ tk₃ hS₃ fun b o hbS hbw e => hk₃ b o hbS hbw ?_
      show h₂.get? b = some o
      rw [hsb.2 b hbS]; exact hm b o hbw e

set_option maxRecDepth 100000 in
/-- set(xs) of a list of texts -/
theorem call_setL {h : Heap} {tk : Nat} {l : Addr} {vs : List Value} {xs : List Str} {Q : Value → Shared → Prop} (hh : A.handled = none) (T : Ls h l vs) (hv : StrVals xs vs) (hb : vs.length + 1 < scanBound)
    (hQ : ∀ h' tk', SetX w h' h.objs.size (once xs) → Kx Non h h' → Q (.ref h.objs.size) (Sh s h' tk')) :
    wpAny (model prg w) A (call (.type "set") [.ref l]) Q E (Sh s h tk) := by
  have hl := T.isList
  obtain ⟨c, tl, hmro⟩ := F.called_set.mro
  have hmade := F.called_set.made
  have hsub := F.called_set.sub
  refine wpAny_call (codeAny_of_tree ?_)
  show wpAny _ _ (callAny (.type "set") _) _ _ _
  refine wpAny_pure ⟨Code.quiet_builtin _ (by decide +kernel), codeAny_builtin F.entry_type_call ?_⟩
  rw [Around.under_plain (weight_type_call_type "set" [.ref l] []) rfl]
  have h1 := F.called_set.notType
  have h2 := F.called_set.canCreate
  have hct := PySem.F.typeCall_set_1 (.ref l)
  repeat (any_goals (first | assumption | wp_step))
  have hnew : codeAny (model prg w) A.in1 (.call (.builtin "set.__new__") ⟨[.type "set", .ref l], []⟩) (wants (fun obj s₁ => obj = .ref h.objs.size ∧ s₁ = Sh s (h.push (sObj #[] 0 (.fresh 0 0 (!w.params.followText "set-order")))) tk) E) (Sh s h tk) := by
    refine codeAny_of_tree ?_
    show wpAny _ _ (do checkBuiltinCall "set.__new__" ⟨[.type "set", .ref l], []⟩; again (.builtin "set.__new__" ⟨[.type "set", .ref l], []⟩)) _ _ _
    refine wpAny_bind (wpAny_of_eq (PySem.F.newCall_set_1 (.ref l)) (wpAny_pure ⟨plainId_quiet F.plain_set_new _, codeAny_builtin F.entry_set_new ?_⟩))
    rw [Around.under_plainId F.plain_set_new _]
    unfold Builtin.«set.__new__» Builtin.Frozenset.newClass
    have hsub := sub_set_self
    wp_walk
    refine wpAny_askSetting (wpAny_pure ?_)
    dsimp only
    simp only [newObj]
    refine wpAny_bind (wpAny_alloc (wpAny_pure ?_))
    exact wpAny_pure ⟨rfl, rfl⟩
  refine codeAny_mono hnew fun r s₁ hr => ?_
  cases r with
  | error e => exact hr
  | ok fl =>
    cases fl with
    | ret obj =>
      obtain ⟨rfl, rfl⟩ := hr
      generalize hO : sObj #[] 0 (.fresh 0 0 (!w.params.followText "set-order")) = O
      have hS : (h.push O).get? h.objs.size = some O := Heap.get?_push_size _ (by rw [← hO]; rfl)
      have hT : Shared.TypeIs (Sh s (h.push O) tk) (.ref h.objs.size) "set" := ⟨_, hS, by rw [← hO]⟩
      have hli := F.called_set.init.lookup
      have hbi := F.called_set.init.bind (.ref h.objs.size)
      repeat (any_goals (first | assumption | wp_step))
      refine codeAny_mono (codeAny_call_builtin (R := wants (fun r s₂ => r = .none ∧ ∃ h' tk', s₂ = Sh s h' tk' ∧ SetX w h' h.objs.size (once xs) ∧ Kx Non h h') E) F.called_set.init.plain F.entry_set_init (check_set_init_1 hT ?_)) fun r₂ s₂ hr₂ => ?_
      · obtain ⟨nl, hol⟩ := T
        have hol' : (h.push O).get? l = some { cls := .type "list", data := .seq vs.toArray nl } := Heap.get?_push_of_some _ hol
        have hsls := PySem.F.sub_list_set
        have hslf := PySem.F.sub_list_frozenset
        have hne : (Value.type "list" == Value.type "dict") = false := by decide
        have hl1 : (h.push O).IsList l vs.toArray := ⟨_, hol', rfl, nl, rfl⟩
        unfold Builtin.«set.__init__» noKeywords Builtin.Frozenset.updateFrom
        generalize hPI : pyIter = PI
        subst hO
        wp_walk
        subst hPI
        refine wpAny_pyIter_list (s := Sh s (h.push (sObj #[] 0 (.fresh 0 0 (!w.params.followText "set-order")))) tk) hl1 ?_
        refine wpAny_bind (wpAny_runValue ?_)
        have hlS : l < h.objs.size := Heap.lt_size hol
        have hh3 : A.in1.in1.in1.handled = none := by simp [hh]
        have hszO : (h.push (sObj #[] 0 (.fresh 0 0 (!w.params.followText "set-order")))).objs.size = h.objs.size + 1 := Heap.size_push ..
        have hneI : l ≠ (h.push (sObj #[] 0 (.fresh 0 0 (!w.params.followText "set-order")))).objs.size := by rw [hszO]; exact Nat.ne_of_lt (Nat.lt_succ_of_lt hlS)
        have hSf : h.objs.size ∉ [(h.push (sObj #[] 0 (.fresh 0 0 (!w.params.followText "set-order")))).objs.size, l] := by
          rw [hszO]; simp only [List.mem_cons, List.mem_singleton, List.not_mem_nil, or_false, not_or]
          exact ⟨Nat.ne_of_lt (Nat.lt_succ_self _), Nat.ne_of_gt hlS⟩
        have hlen : vs.toArray.size = xs.length := by simp; exact (Paired.length hv).symm
        refine set_loop (Walks.list hh3 _ l hneI vs.toArray) h.objs.size hSf xs hlen (fun i v e => hv.at (by simpa using e)) (by simpa using hb) (vs.toArray.size - 0) 0 _ (by omega) (Nat.zero_le _)
          ⟨⟨_, Heap.get?_push_size _ rfl, rfl, rfl⟩, (hl1.push _)⟩ ⟨#[], 0, .fresh 0 0 (!w.params.followText "set-order"), ?_, ?_⟩ fun h' tk' hS' hk => ?_
        · exact Heap.get?_push_of_some _ hS
        · exact ⟨fun e he => by simp at he, by simp [once], by decide, rfl, rfl, fun h => absurd h (by simp)⟩
        · refine wpAny_pure ?_
          refine wpAny_pure ⟨rfl, h', tk', rfl, hS', .ofAll fun b o e => ?_⟩
          have hb0 : b < h.objs.size := Heap.lt_size e
          refine hk b o (Nat.ne_of_lt hb0) ?_ (Heap.get?_push_of_some _ (Heap.get?_push_of_some _ e))
          rw [List.mem_singleton, hszO]
          exact Nat.ne_of_lt (Nat.lt_succ_of_lt hb0)
      · cases r₂ with
        | error e => exact hr₂
        | ok fl₂ =>
          cases fl₂ with
          | ret r =>
            obtain ⟨rfl, h', tk', rfl, hS', hk'⟩ := hr₂
            repeat (any_goals (first | assumption | wp_step))
            exact hQ _ _ hS' hk'
          | _ => exact hr₂.elim
    | _ => exact hr.elim
end
end Mine

namespace Mine

theorem slot_si_next : Slot "set_iterator" "__next__" "set_iterator.__next__" :=
  .of (owner := "set_iterator") (n := "__next__") (by rw [typeLookup_type, builtinLookup_eq_fast]; kernel_rfl) (by decide +kernel) (by decide +kernel) (by decide +kernel)
    (by first | exact .inl (by decide +kernel) | exact .inr (by decide +kernel)) (by rw [isSubtype_type]; kernel_rfl)
theorem entry_si_next : entryFor table "set_iterator.__next__" = some Builtin.«set_iterator.__next__» := entryFor_of_fast (by kernel_rfl)
theorem args_si_next (a : Value) : argsOk "set_iterator.__next__" ⟨[a], []⟩ := by unfold argsOk; kernel_rfl
theorem nolen_si : typeLookup (.type "set_iterator") "__len__" = pure none := by rw [typeLookup_type, builtinLookup_eq_fast]; kernel_rfl
theorem hint_si : typeLookup (.type "set_iterator") "__length_hint__" = pure (some (.builtin "set_iterator.__length_hint__")) := by rw [typeLookup_type, builtinLookup_eq_fast]; kernel_rfl
theorem entry_set_iter : entryFor table "set.__iter__" = some Builtin.«frozenset.__iter__» :=
  entryFor_alias (id' := "frozenset.__iter__") (by kernel_rfl) rfl (by decide +kernel) (by kernel_rfl)

abbrev sit (first : Value) (i : Nat) (S : Addr) (n ep : Nat) : Obj := { cls := .type "set_iterator", data := .fields #[first, rawInt i, .ref S, rawInt n, rawInt ep] }

section
variable {w : World} {A : Around} {E : Value → Shared → Prop} {s : Shared} {es : Array (Int × Value)} {ep : Nat} {t : SetTable} {S : Addr}

/-- what the walk will give -/
structure SWalk (w : World) (es : Array (Int × Value)) (ep : Nat) (t : SetTable) (S : Addr) (h : Heap) (first : Value) (out : List Value) : Prop where
  pm : out.Perm (es.toList.map (·.2))
  how : (w.params.followText "set-order" = true ∧ first = rawInt (0 : Nat) ∧ out = ((pickOrder (w.params.setOrder S ep) es).toList.map (·.2))) ∨
    (w.params.followText "set-order" = false ∧ (!t.plain && decide (es.size > 1)) = true ∧ ∃ (T : Addr) (pl : List Nat), first = .ref T ∧ Tp h T (pl.map fun (i : Nat) => rawInt i) ∧ pl.Perm (List.range es.size) ∧ out = pl.filterMap (fun i => (es[i]?).map (·.2))) ∨
    (w.params.followText "set-order" = false ∧ (!t.plain && decide (es.size > 1)) = false ∧ first = rawInt (0 : Nat) ∧ out = es.toList.map (·.2))

theorem range_pick (es : Array (Int × Value)) : (List.range es.size).filterMap (fun i => (es[i]?).map (·.2)) = es.toList.map (·.2) := by
  rw [← filterMap_getElem?_range es, List.map_filterMap]

theorem iter_set {h : Heap} {tk : Nat} {Q : Value → Shared → Prop} (ho : h.get? S = some (sObj es ep t)) (hf : t.fits es.size = true) (hz : es.size < scanBound)
    (hQ : ∀ h₁ d first out, Kx Non h h₁ → SWalk w es ep t S h₁ first out → Q (.ref h₁.objs.size) (Sh { s with drawn := d } (h₁.push (sit first 0 S es.size ep)) tk)) :
    wpAny (model prg w) A (pyIter (.ref S)) Q E (Sh s h tk) := by
  have hT : Shared.TypeIs (Sh s h tk) (.ref S) "set" := ⟨_, ho, rfl⟩
  refine wpAny_pyIter_slot hT PySem.F.slot_set_iter (wpAny_call_entry PySem.F.slot_set_iter hT entry_set_iter ?_ (PySem.F.args_set_iter_1 _))
  show wpAny _ _ (Builtin.Frozenset.sizeOf S >>= _) _ _ _
  unfold Builtin.Frozenset.sizeOf
  refine wpAny_bind (wpAny_bind (wpAny_setEntries_of ho rfl hf (wpAny_pure ?_)))
  dsimp only
  show wpAny _ _ (setDrawn S >>= _) _ _ _
  unfold setDrawn
  refine wpAny_bind (wpAny_bind (wpAny_setState_of ho rfl hf ?_))
  dsimp only
  refine wpAny_bind (wpAny_bind (wpAny_askSetting (wpAny_pure ?_)))
  show wpAny _ _ (pure (!w.params.followText "set-order" && (!t.plain && decide (es.size > 1)))) _ _ _
  refine wpAny_pure ?_
  cases hb : w.params.followText "set-order" with
  | true =>
    simp only [Bool.not_true, Bool.false_and, Bool.false_eq_true, if_false]
    refine wpAny_bind (wpAny_pure ?_)
    refine wpAny_bind (wpAny_setEpoch_of ho rfl hf ?_)
    refine wpAny_bind (wpAny_newObj_type (wpAny_pure ⟨_, rfl, "set_iterator", _, ⟨_, Heap.get?_push_size _ rfl, rfl⟩, slot_si_next.lookup, ?_⟩))
    exact hQ h s.drawn _ _ (Kx.refl _ _) ⟨(pick_perm _ _).map _, .inl ⟨hb, rfl, rfl⟩⟩
  | false =>
    simp only [Bool.not_false, Bool.true_and]
    by_cases hd : (!t.plain && decide (es.size > 1)) = true
    · rw [if_pos hd]
      refine wpAny_bind (wpAny_drawOrder es.size (List.range es.size) _ (by rw [List.length_range]) fun pl d hp => ?_)
      have hpl : pl.length = es.size := by rw [hp.length_eq]; simp
      refine wpAny_bind (wpAny_newTuple ?_ (by simp [hpl]; exact fits_of_scanBound hz))
      refine wpAny_bind (wpAny_setEpoch_of (Heap.get?_push_of_some _ ho) rfl hf ?_)
      refine wpAny_bind (wpAny_newObj_type (wpAny_pure ⟨_, rfl, "set_iterator", _, ⟨_, Heap.get?_push_size _ rfl, rfl⟩, slot_si_next.lookup, ?_⟩))
      refine hQ _ d _ _ (Kx.push _ _) ⟨?_, .inr (.inl ⟨hb, hd, _, pl, rfl, Tp.newTuple _ _, hp, rfl⟩)⟩
      rw [← range_pick es]
      exact hp.filterMap _
    · rw [if_neg hd]
      refine wpAny_bind (wpAny_pure ?_)
      refine wpAny_bind (wpAny_setEpoch_of ho rfl hf ?_)
      refine wpAny_bind (wpAny_newObj_type (wpAny_pure ⟨_, rfl, "set_iterator", _, ⟨_, Heap.get?_push_size _ rfl, rfl⟩, slot_si_next.lookup, ?_⟩))
      exact hQ h s.drawn _ _ (Kx.refl _ _) ⟨List.Perm.refl _, .inr (.inr ⟨hb, by simpa using hd, rfl, rfl⟩)⟩
end
end Mine

namespace Mine

section
variable {w : World} {A : Around} {E : Value → Shared → Prop} {s : Shared} {es : Array (Int × Value)} {ep : Nat} {t : SetTable} {S I : Addr}

theorem sit_set {h : Heap} {f : Value} {i n ep : Nat} (j : Nat) (v : Value) (ho : h.get? I = some { cls := .type "set_iterator", data := .fields #[f, rawInt i, .ref S, rawInt n, rawInt ep] }) :
    (h.update I (·.mapFields fun vs => vs.setIfInBounds j v)).get? I = some { cls := .type "set_iterator", data := .fields (#[f, rawInt i, .ref S, rawInt n, rawInt ep].setIfInBounds j v) } :=
  Heap.get?_update_self _ ho rfl

/-- the end of a walk -/
theorem next_stop {Q : Option Value → Shared → Prop} (hh : A.handled = none) (hQ : ∀ h', (∀ b o, s.heap.get? b = some o → h'.get? b = some o) → Q none { s with heap := h' }) :
    wpAny (model prg w) A.in1 (do raiseNew (← newExc (.type "StopIteration") []) : Sem Fin) (fun fin s' => ∃ v, fin = .done (.ret v) ∧ wpAny (model prg w) A (match (Except.ok (some v) : Except Value (Option Value)) with | .ok (some v) => pure (some v) | .ok none => unsupported "iter:the-iterator's-class-has-lost-its-__next__-amid-the-walk" | .error e => do if ← isInstance e (.type "StopIteration") then pure none else throw e) Q E s')
      (fun e s' => wpAny (model prg w) A (do if ← isInstance e (.type "StopIteration") then pure none else throw e) Q E s') s := by
  refine wpAny_bind ?_
  simp only [newExc, newTuple]
  refine wpAny_bind (wpAny_newObj_type ?_ (by size_fits))
  refine wpAny_bind (m := firstArgMember _ _) (wpAny_of_eq (a := Value.none) (by first | rfl | (simp only [firstArgMember]; rfl)) ?_)
  refine wpAny_newObj_type ?_ (by size_fits)
  simp only [raiseNew]
  refine wpAny_bind (wpAny_handled ?_)
  rw [show A.in1.handled = none from hh]
  refine wpAny_bind (wpAny_pure (wpAny_throw ?_))
  refine wpAny_bind (wpAny_isInstance (T := "StopIteration") (b := true) ⟨_, Heap.get?_push_size _ rfl, rfl⟩ isSubtype_stop ?_)
  exact wpAny_pure (hQ _ fun b o e => Heap.get?_push_of_some _ (Heap.get?_push_of_some _ e))

theorem next_int {slot i : Nat} {r : Option (Value × Nat)} {Q : Option Value → Shared → Prop} (hh : A.handled = none) (ho : s.heap.get? I = some (sit (rawInt slot) i S es.size ep)) (hS : s.heap.get? S = some (sObj es ep t)) (hf : t.fits es.size = true)
    (hN : ∀ (Q' : Option (Value × Nat) → Shared → Prop) E', Q' r s → wpAny (model prg w) A.in1 (setNext S slot i ep) Q' E' s)
    (hQ : ∀ h', Heap.ExtBut I s.heap h' → (∀ v j, r = some (v, j) → h'.get? I = some (sit (rawInt j) (i + 1) S es.size ep)) → Q (r.map (·.1)) { s with heap := h' }) : wpAny (model prg w) A (pyNext (.ref I)) Q E s := by
  have hT : Shared.TypeIs s (.ref I) "set_iterator" := ⟨_, ho, rfl⟩
  unfold pyNext
  refine wpAny_bind (wpAny_attempt (wpAny_callSpecial?_slot (name := Str.ofString "__next__") hT slot_si_next (wpAny_call_entry slot_si_next hT entry_si_next ?_ (args_si_next _))))
  show wpAny _ _ (fieldsOf (.ref I) >>= _) _ _ s
  refine wpAny_bind (wpAny_fieldsOf ho rfl ?_)
  dsimp only [rawInt]
  show wpAny _ _ (setEntries S >>= _) _ _ s
  refine wpAny_bind (wpAny_setEntries_of hS rfl hf ?_)
  simp only [bne_self_eq_false, Bool.false_eq_true, if_false]
  refine wpAny_bind (hN _ _ ?_)
  cases r with
  | none =>
    dsimp only
    refine wpAny_bind (wpAny_setField ho rfl (by simp) ?_)
    refine wpAny_mono (next_stop (E := E) (Q := Q) hh fun h' hk => ?_) (fun fin s' x => ?_) fun _ _ x => x
    · exact hQ h' (fun b o hb e => hk b o ((Heap.SameBut.update s.heap I _).2 b hb ▸ e)) (fun _ _ e => nomatch e)
    · obtain ⟨v, rfl, y⟩ := x
      exact ⟨v, rfl, y⟩
  | some r =>
    obtain ⟨v, j⟩ := r
    dsimp only
    refine wpAny_bind (wpAny_setField ho rfl (by simp) ?_)
    have h1 := sit_set 0 (rawInt j) ho
    refine wpAny_bind (wpAny_setField h1 rfl (by simp) ?_)
    have h2 := Heap.get?_update_self (·.mapFields fun vs => vs.setIfInBounds 1 (rawInt ((i : Int) + 1))) h1 rfl
    refine wpAny_pure ⟨v, rfl, wpAny_pure (hQ _ ((Heap.SameBut.update ..).trans (Heap.SameBut.update ..)).extBut ?_)⟩
    rintro v' j' e
    cases e
    exact h2

theorem next_ref {T : Addr} {pl : List Nat} {i : Nat} {Q : Option Value → Shared → Prop} (hh : A.handled = none) (ho : s.heap.get? I = some (sit (.ref T) i S es.size ep)) (hS : s.heap.get? S = some (sObj es ep t)) (hf : t.fits es.size = true)
    (hT : Tp s.heap T (pl.map fun (i : Nat) => rawInt i)) (hpl : ∀ p ∈ pl, p < es.size)
    (hQ : ∀ h', Heap.ExtBut I s.heap h' → (∀ v, (pl.filterMap (fun i => (es[i]?).map (·.2)))[i]? = some v → h'.get? I = some (sit (.ref T) (i + 1) S es.size ep)) → Q ((pl.filterMap (fun i => (es[i]?).map (·.2)))[i]?) { s with heap := h' }) :
    wpAny (model prg w) A (pyNext (.ref I)) Q E s := by
  have hf' : (pl.filterMap (fun i => (es[i]?).map (·.2)))[i]? = (pl[i]?).bind fun p => (es[p]?).map (·.2) := by
    have : ∀ (l : List Nat), (∀ p ∈ l, p < es.size) → ∀ i : Nat, (l.filterMap (fun i => (es[i]?).map (·.2)))[i]? = (l[i]?).bind fun p => (es[p]?).map (·.2) := by
      intro l
      induction l with
      | nil => intro _ i; simp
      | cons p l ih =>
        intro hl i
        have hp := hl p List.mem_cons_self
        rw [List.filterMap_cons_some (b := es[p].2) (by rw [Array.getElem?_eq_getElem hp]; rfl)]
        cases i with
        | zero => simp [hp]
        | succ i => simpa using ih (fun q hq => hl q (List.mem_cons_of_mem _ hq)) i
    exact this pl hpl i
  rw [hf'] at hQ
  have hTy : Shared.TypeIs s (.ref I) "set_iterator" := ⟨_, ho, rfl⟩
  unfold pyNext
  refine wpAny_bind (wpAny_attempt (wpAny_callSpecial?_slot (name := Str.ofString "__next__") hTy slot_si_next (wpAny_call_entry slot_si_next hTy entry_si_next ?_ (args_si_next _))))
  show wpAny _ _ (fieldsOf (.ref I) >>= _) _ _ s
  refine wpAny_bind (wpAny_fieldsOf ho rfl ?_)
  dsimp only [rawInt]
  show wpAny _ _ (setEntries S >>= _) _ _ s
  refine wpAny_bind (wpAny_setEntries_of hS rfl hf ?_)
  simp only [bne_self_eq_false, Bool.false_eq_true, if_false]
  obtain ⟨n, hTo⟩ := hT
  refine wpAny_bind (wpAny_seqItems hTo rfl ?_)
  dsimp only
  have eget : (List.map (fun (i : Nat) => rawInt i) pl).toArray[(i : Int).toNat]? = (pl[i]?).map fun (i : Nat) => rawInt i := by simp
  rw [eget]
  cases hp : pl[i]? with
  | none =>
    rw [hp] at hQ
    dsimp only [Option.map]
    refine wpAny_bind (wpAny_setField ho rfl (by simp) ?_)
    have h1 := sit_set 0 (rawInt (0 : Nat)) ho
    refine wpAny_bind (wpAny_setField h1 rfl (by simp) ?_)
    refine wpAny_mono (next_stop (E := E) (Q := Q) hh fun h' hk => ?_) (fun fin s' x => ?_) fun _ _ x => x
    · exact hQ h' (fun b o hb e => hk b o (((Heap.SameBut.update s.heap I _).trans (Heap.SameBut.update _ I _)).2 b hb ▸ e)) (fun _ e => nomatch e)
    · obtain ⟨v, rfl, y⟩ := x
      exact ⟨v, rfl, y⟩
  | some p =>
    rw [hp] at hQ
    dsimp only [Option.map, rawInt]
    have hlt := hpl p (List.mem_of_getElem? hp)
    unfold setNextDrawn
    refine wpAny_bind (wpAny_bind (wpAny_setState_of hS rfl hf ?_))
    have e1 : (ep != ((ep : Nat) : Int).toNat) = false := by simp
    have e2 : es[((p : Nat) : Int).toNat]? = some (es[p].1, es[p].2) := by rw [Int.toNat_natCast]; exact Array.getElem?_eq_getElem hlt
    simp only [e1, Bool.false_eq_true, if_false, e2]
    refine wpAny_pure ?_
    refine wpAny_bind (wpAny_setField ho rfl (by simp) ?_)
    have h2 := sit_set 1 (rawInt ((i : Int) + 1)) ho
    have e3 : (Option.bind (some p) fun p => Option.map (fun x => x.2) es[p]?) = some es[p].2 := by
      show Option.map _ es[p]? = _
      rw [Array.getElem?_eq_getElem hlt]; rfl
    rw [e3] at hQ
    exact wpAny_pure ⟨_, rfl, wpAny_pure (hQ _ (Heap.SameBut.update ..).extBut fun _ _ => h2)⟩
end
end Mine

namespace Mine

section
variable {w : World} {A : Around} {E : Value → Shared → Prop} {s : Shared} {es : Array (Int × Value)} {ep : Nat} {t : SetTable} {S I : Addr}

theorem setNext_text {i : Nat} (hb : w.params.followText "set-order" = true) (hS : s.heap.get? S = some (sObj es ep t)) (hf : t.fits es.size = true) (Q' : Option (Value × Nat) → Shared → Prop) (E' : Value → Shared → Prop)
    (h : Q' (((pickOrder (w.params.setOrder S ep) es)[i]?).map fun e => (e.2, 0)) s) : wpAny (model prg w) A (setNext S 0 i ep) Q' E' s := by
  unfold setNext
  refine wpAny_bind (wpAny_setState_of hS rfl hf ?_)
  dsimp only
  refine wpAny_bind (wpAny_bind (wpAny_askSetting (wpAny_pure ?_)))
  show wpAny _ _ (if w.params.followText "set-order" = true then _ else _) _ _ _
  rw [if_pos hb]
  simp only [bne_self_eq_false, Bool.false_eq_true, if_false]
  unfold setWalk
  refine wpAny_bind (wpAny_bind (wpAny_setState_of hS rfl hf ?_))
  dsimp only
  refine wpAny_bind (wpAny_bind (wpAny_askSetting (wpAny_pure ?_)))
  show wpAny _ _ (if w.params.followText "set-order" = true then _ else _) _ _ _
  rw [if_pos hb]
  refine wpAny_bind (wpAny_askSetting (wpAny_pure ?_))
  exact wpAny_pure h
theorem setNext_small {slot i : Nat} (hb : w.params.followText "set-order" = false) (hl : t.led = true) (hd : (!t.plain && decide (es.size > 1)) = false) (hS : s.heap.get? S = some (sObj es ep t)) (hf : t.fits es.size = true) (Q' : Option (Value × Nat) → Shared → Prop) (E' : Value → Shared → Prop)
    (h : Q' (match es[SetTable.below t.place slot]?, t.place[SetTable.below t.place slot]? with | some (_, x), some j => some (x, j + 1) | _, _ => none) s) : wpAny (model prg w) A (setNext S slot i ep) Q' E' s := by
  unfold setNext
  refine wpAny_bind (wpAny_setState_of hS rfl hf ?_)
  dsimp only
  refine wpAny_bind (wpAny_bind (wpAny_askSetting (wpAny_pure ?_)))
  show wpAny _ _ (if w.params.followText "set-order" = true then _ else _) _ _ _
  rw [if_neg (by rw [hb]; decide)]
  show wpAny _ _ (if (!t.plain && decide (es.size > 1)) = true then _ else _) _ _ _
  rw [if_neg (by rw [hd]; decide)]
  show wpAny _ _ ((if (!t.led && !es.isEmpty) = true then unsupported "set:maker-not-led" else pure ()) >>= _) _ _ _
  rw [if_neg (by rw [hl]; simp)]
  exact wpAny_bind (wpAny_pure (wpAny_pure h))

/-- the set's walk -/
def SetSt (h : Heap) (S I : Addr) (es : Array (Int × Value)) (ep : Nat) (t : SetTable) (first : Value) (i : Nat) : Prop := h.get? I = some (sit first i S es.size ep) ∧ h.get? S = some (sObj es ep t)

theorem below_one (xs : Array Nat) (h : xs.size = 1) : SetTable.below xs (xs[0] + 1) = 1 := by
  obtain ⟨l⟩ := xs
  match l, h with
  | [x], _ =>
    show SetTable.below #[x] (x + 1) = 1
    unfold SetTable.below
    show SetTable.below.go #[x] (x + 1) 1 0 1 = 1
    unfold SetTable.below.go
    simp [SetTable.below.go]
/-- what gives its values in turn -/
structure Gives (w : World) (A : Around) (I : Addr) (fp : List Addr) (out : List Value) (St : Nat → Heap → Prop) : Prop where
  mem : I ∈ fp
  frame : ∀ i h h', St i h → (∀ b ∈ fp, ∀ o, h.get? b = some o → h'.get? b = some o) → St i h'
  next : ∀ i (s : Shared) (Q : Option Value → Shared → Prop) (E : Value → Shared → Prop), i ≤ out.length → St i s.heap →
    (∀ h', (i < out.length → St (i + 1) h') → (∀ b o, b ≠ I → s.heap.get? b = some o → h'.get? b = some o) → Q out[i]? { s with heap := h' }) → wpAny (model prg w) A (pyNext (.ref I)) Q E s

theorem gives_text (hh : A.handled = none) (hb : w.params.followText "set-order" = true) (hf : t.fits es.size = true) (hIS : S ≠ I) :
    Gives w A I [I, S] ((pickOrder (w.params.setOrder S ep) es).toList.map (·.2)) (fun i h => SetSt h S I es ep t (rawInt (0 : Nat)) i) where
  mem := by simp
  frame := fun i h h' st hk => ⟨hk I (by simp) _ st.1, hk S (by simp) _ st.2⟩
  next := fun i s Q E hi st hQ => by
    refine next_int hh st.1 st.2 hf (fun Q' E' h => setNext_text hb st.2 hf Q' E' h) fun h' hx hr => ?_
    have e : (((pickOrder (w.params.setOrder S ep) es)[i]?).map fun e => (e.2, 0)).map (·.1) = ((pickOrder (w.params.setOrder S ep) es).toList.map (·.2))[i]? := by
      rw [Option.map_map, List.getElem?_map, Array.getElem?_toList]; rfl
    rw [e]
    refine hQ h' (fun hlt => ⟨?_, hx _ _ hIS st.2⟩) fun b o hb e => hx b o hb e
    rw [List.length_map, Array.length_toList] at hlt
    exact hr _ 0 (by rw [Array.getElem?_eq_getElem hlt]; rfl)

theorem gives_drawn {T : Addr} {pl : List Nat} (hh : A.handled = none) (hf : t.fits es.size = true) (hIS : S ≠ I) (hIT : T ≠ I) (hp : pl.Perm (List.range es.size)) :
    Gives w A I [I, S, T] (pl.filterMap (fun i => (es[i]?).map (·.2))) (fun i h => SetSt h S I es ep t (.ref T) i ∧ Tp h T (pl.map fun (i : Nat) => rawInt i)) where
  mem := by simp
  frame := fun i h h' st hk => ⟨⟨hk I (by simp) _ st.1.1, hk S (by simp) _ st.1.2⟩, let ⟨n, e⟩ := st.2; ⟨n, hk T (by simp) _ e⟩⟩
  next := fun i s Q E hi st hQ => by
    have hpl : ∀ p ∈ pl, p < es.size := fun p hm => List.mem_range.mp (hp.mem_iff.mp hm)
    refine next_ref hh st.1.1 st.1.2 hf st.2 hpl fun h' hx hr => ?_
    refine hQ h' (fun hlt => ⟨⟨hr _ (List.getElem?_eq_getElem hlt), hx _ _ hIS st.1.2⟩, let ⟨n, e⟩ := st.2; ⟨n, hx _ _ hIT e⟩⟩) fun b o hb e => hx b o hb e

theorem gives_small (hh : A.handled = none) (hb : w.params.followText "set-order" = false) (hl : t.led = true) (hd : (!t.plain && decide (es.size > 1)) = false) (hf : t.fits es.size = true) (hpl : 0 < es.size → t.plain = false) (hIS : S ≠ I) :
    Gives w A I [I, S] (es.toList.map (·.2)) (fun i h => ∃ slot : Nat, SetSt h S I es ep t (rawInt slot) i ∧ SetTable.below t.place slot = i ∧ (i = 0 → slot = 0)) where
  mem := by simp
  frame := fun i h h' ⟨sl, st, e⟩ hk => ⟨sl, ⟨hk I (by simp) _ st.1, hk S (by simp) _ st.2⟩, e⟩
  next := fun i s Q E hi ⟨sl, st, e, e0⟩ hQ => by
    have hsz : es.size ≤ 1 := by
      by_cases h0 : 0 < es.size
      · rw [hpl h0] at hd; simpa using hd
      · omega
    have hps : t.place.size = es.size := by
      simp only [SetTable.fits, Bool.and_eq_true, beq_iff_eq] at hf; exact hf.1
    refine next_int hh st.1 st.2 hf (fun Q' E' h => setNext_small hb hl hd st.2 hf Q' E' h) fun h' hx hr => ?_
    rw [e] at hr ⊢
    by_cases hlt : i < es.size
    · have h1 : es[i]? = some es[i] := Array.getElem?_eq_getElem hlt
      have h2 : t.place[i]? = some t.place[i] := Array.getElem?_eq_getElem (by omega)
      rw [h1, h2] at hr ⊢
      have h3 : (es.toList.map (·.2))[i]? = some es[i].2 := by rw [List.getElem?_map, Array.getElem?_toList, h1]; rfl
      rw [h3] at hQ
      refine hQ h' (fun _ => ⟨t.place[i] + 1, ⟨hr _ _ rfl, hx _ _ hIS st.2⟩, ?_, fun h => by omega⟩) fun b o hb e => hx b o hb e
      have hi0 : i = 0 := by omega
      have hs1 : t.place.size = 1 := by omega
      subst hi0
      exact below_one _ hs1
    · have h1 : es[i]? = none := Array.getElem?_eq_none (by omega)
      rw [h1]
      have h3 : (es.toList.map (·.2))[i]? = none := by rw [List.getElem?_map, Array.getElem?_toList, h1]; rfl
      rw [h3] at hQ
      refine hQ h' (fun h => ?_) fun b o hb e => hx b o hb e
      rw [List.length_map, Array.length_toList] at h
      omega
end
end Mine

namespace Mine

section
variable {w : World} {A : Around} {E : Value → Shared → Prop} {s : Shared} {es : Array (Int × Value)} {ep : Nat} {t : SetTable} {S I : Addr} {R : Result → Shared → Prop}

theorem gives_of {h : Heap} {ks : List Str} {first : Value} {out : List Value} (hh : A.handled = none) (X : SetXE w es t ks) (hS : h.get? S = some (sObj es ep t)) (W : SWalk w es ep t S h first out) :
    ∃ fp St, Gives w A h.objs.size fp out St ∧ St 0 (h.push (sit first 0 S es.size ep)) ∧ ∀ b ∈ fp, ∀ us, ¬ Ls h b us := by
  have hlt : S < h.objs.size := Heap.lt_size hS
  have hne : S ≠ h.objs.size := Nat.ne_of_lt hlt
  have hI : (h.push (sit first 0 S es.size ep)).get? h.objs.size = some (sit first 0 S es.size ep) := Heap.get?_push_size _ rfl
  have nI : ∀ us, ¬ Ls h h.objs.size us := fun us l => Nat.lt_irrefl _ l.lt
  have nS : ∀ us, ¬ Ls h S us := fun us ⟨n, e⟩ => by rw [hS] at e; injection e with e; injection e with e; injection e with e; exact absurd e (by decide)
  have hS' : (h.push (sit first 0 S es.size ep)).get? S = some (sObj es ep t) := Heap.get?_push_of_some _ hS
  rcases W.how with ⟨hb, rfl, rfl⟩ | ⟨hb, hd, T, pl, rfl, hT, hp, rfl⟩ | ⟨hb, hd, rfl, rfl⟩
  · exact ⟨_, _, gives_text hh hb X.fits hne, ⟨hI, hS'⟩, fun b hb => by
      simp only [List.mem_cons, List.not_mem_nil, or_false] at hb
      rcases hb with rfl | rfl
      · exact nI
      · exact nS⟩
  · exact ⟨_, _, gives_drawn hh X.fits hne (Nat.ne_of_lt hT.lt) hp, ⟨⟨hI, hS'⟩, let ⟨n, e⟩ := hT; ⟨n, Heap.get?_push_of_some _ e⟩⟩, fun b hb => by
      simp only [List.mem_cons, List.not_mem_nil, or_false] at hb
      rcases hb with rfl | rfl | rfl
      · exact nI
      · exact nS
      · exact fun us l => hT.ne_ls l rfl⟩
  · have hl : t.led = true := by rw [X.led, hb]; rfl
    refine ⟨_, _, gives_small hh hb hl hd X.fits X.pl hne, ⟨0, ⟨hI, hS'⟩, ?_, fun _ => rfl⟩, fun b hb => by
      simp only [List.mem_cons, List.not_mem_nil, or_false] at hb
      rcases hb with rfl | rfl
      · exact nI
      · exact nS⟩
    have hsz : es.size ≤ 1 := by
      by_cases h0 : 0 < es.size
      · rw [X.pl h0] at hd; simpa using hd
      · omega
    have hps : t.place.size = es.size := by
      have := X.fits
      simp only [SetTable.fits, Bool.and_eq_true, beq_iff_eq] at this; exact this.1
    have hp1 : t.place.size ≤ 1 := by omega
    clear hI hS' hS W X hps
    obtain ⟨m, pl, du, fi, le, mo, pn⟩ := t
    obtain ⟨l⟩ := pl
    show SetTable.below ⟨l⟩ 0 = 0
    match l, hp1 with
    | [], _ => rfl
    | [x], _ =>
      unfold SetTable.below
      show SetTable.below.go #[x] 0 1 0 1 = 0
      unfold SetTable.below.go
      simp [SetTable.below.go]
    | _ :: _ :: _, h => exact absurd h (by simp)

theorem ext_loop {fp : List Addr} {out : List Value} {St : Nat → Heap → Prop} (W : Gives w A.in1 I fp out St) (hn : out.length ≤ sizeLine) (D : Addr) (hD : D ∉ fp) (res : Value) :
    ∀ (k i : Nat) (s : Shared) (c : Nat), out.length - i = k → i ≤ out.length → St i s.heap → s.heap.get? D = some { cls := .type "list", data := .seq (out.take i).toArray c } →
    (∀ h' c', (∀ b o, b ≠ D → b ≠ I → s.heap.get? b = some o → h'.get? b = some o) → h'.get? D = some { cls := .type "list", data := .seq out.toArray c' } → R (.ok (.ret res)) { s with heap := h' }) →
    codeAny (model prg w) A (.builtin "list.extend.loop" ⟨[.ref D, .ref I, res], []⟩) R s := by
  have hDI : D ≠ I := fun e => hD (e ▸ W.mem)
  intro k
  induction k with
  | zero =>
    intro i s c hk hi hst hS hR
    have hin : i = out.length := by omega
    subst hin
    refine codeAny_builtin PySem.F.entry_extend_loop ?_
    rw [Around.under_plainId PySem.F.plain_extend_loop _]
    show wpAny _ A.in1 (pyNext (.ref I) >>= _) _ _ s
    refine wpAny_bind (W.next _ s _ _ (Nat.le_refl _) hst fun h' _ hk => ?_)
    rw [List.getElem?_eq_none (Nat.le_refl _)]
    refine wpAny_pure (hR h' c (fun b o _ hI e => hk b o hI e) ?_)
    rw [List.take_length] at hS
    exact hk D _ hDI hS
  | succ k ih =>
    intro i s c hk hi hst hS hR
    have hlt : i < out.length := by omega
    refine codeAny_builtin PySem.F.entry_extend_loop ?_
    rw [Around.under_plainId PySem.F.plain_extend_loop _]
    show wpAny _ A.in1 (pyNext (.ref I) >>= _) _ _ s
    refine wpAny_bind (W.next i s _ _ hi hst fun h' hst' hk' => ?_)
    have e1 : out[i]? = some out[i] := List.getElem?_eq_getElem hlt
    rw [e1]
    have hS' := hk' D _ hDI hS
    show wpAny _ A.in1 (updateSeq D (·.push out[i]) >>= _) _ _ _
    refine wpAny_bind ?_
    have hlen : (out.take i).toArray.size = i := by simp; omega
    have ⟨c2, hc2⟩ : ∃ c2, (h'.update D (Obj.mapSeq (·.push out[i]))).get? D = some { cls := .type "list", data := .seq (out.take (i + 1)).toArray c2 } := by
      have := get?_update_seq hS' (·.push out[i])
      rw [show ((out.take i).toArray.push out[i]) = (out.take (i + 1)).toArray by rw [List.take_add_one, e1]; simp] at this
      exact ⟨_, this⟩
    refine wpAny_updateSeq hS' rfl (wpAny_pure ⟨plainId_quiet PySem.F.plain_extend_loop _, ih (i + 1) _ c2 (by omega) hlt (W.frame _ _ _ (hst' hlt) fun b hb o e => ?_) hc2 fun h'' c' hk'' hS'' => ?_⟩)
      (by rw [hlen]; omega) (by show ((out.take i).toArray.push out[i]).size ≤ sizeLine + 1; rw [Array.size_push, hlen]; omega)
    · exact (Heap.get?_update_other _ _ (fun h : D = b => hD (by rw [h]; exact hb))).trans e
    · refine hR h'' c' (fun b o hbD hbI e => hk'' b o hbD hbI ?_) hS''
      exact (Heap.get?_update_other _ _ (Ne.symm hbD)).trans (hk' b o hbI e)

theorem hint_set {Q : Bool → Shared → Prop} (hT : s.TypeIs (.ref S) "set") (hQ : Q false s) : wpAny (model prg w) A (Builtin.List.listLengthHint (.ref S)) Q E s := by
  unfold Builtin.List.listLengthHint
  refine wpAny_bind (wpAny_specialOf hT PySem.F.slot_set_len.lookup ?_)
  generalize hid : ("set.__len__" : String) = id0
  wp_delta
  rw [show splitId id0 = some ("set", "__len__") from by subst hid; decide +kernel]
  subst hid
  refine wpAny_bind (wpAny_isInstance (T := "set") (b := true) hT (by rw [isSubtype_type]; kernel_rfl) ?_)
  refine wpAny_ite_split (fun hab => absurd hab (by decide)) (fun _ => ?_)
  refine wpAny_ite_split (fun _ => ?_) (fun hab => absurd (by decide +kernel) hab)
  refine wpAny_bind (wpAny_typeOf hT ?_)
  exact wpAny_pure hQ

theorem collect_set {h : Heap} {tk : Nat} {ks : List Str} {Q : List Value → Shared → Prop} (hh : A.handled = none) (X : SetX w h S ks)
    (hQ : ∀ d h' tk' out ss, StrVals ss out → ss.Perm ks → Kx Non h h' → Q out (Sh { s with drawn := d } h' tk')) : wpAny (model prg w) A (collect (.ref S)) Q E (Sh s h tk) := by
  obtain ⟨es, ep, t, ho, X⟩ := X
  have hS : S < h.objs.size := Heap.lt_size ho
  unfold collect
  refine wpAny_bind (wpAny_runValue (codeAny_builtin PySem.F.entry_proto_collect ?_))
  rw [Around.under_plainId PySem.F.plain_proto_collect _]
  show wpAny _ A.in1 (newList [] >>= fun l => again (.builtin "list.__iadd__" ⟨[l, .ref S], []⟩)) _ _ _
  refine wpAny_bind (wpAny_newObj_type ?_)
  refine wpAny_pure ⟨plainId_quiet PySem.F.plain_list_iadd _, codeAny_builtin PySem.F.entry_list_iadd ?_⟩
  rw [Around.under_plainId PySem.F.plain_list_iadd _]
  show wpAny _ A.in1 (Builtin.List.listExtendWith (.ref h.objs.size) (.ref S) (.ref h.objs.size)) _ _ (Sh s (h.push { cls := .type "list", data := .seq #[] }) tk)
  have ho1 : (h.push { cls := .type "list", data := .seq #[] }).get? S = some (sObj es ep t) := Heap.get?_push_of_some _ ho
  have hD1 : (h.push { cls := .type "list", data := .seq #[] }).get? h.objs.size = some { cls := .type "list", data := .seq #[] } := Heap.get?_push_size _ rfl
  have hsz1 : (h.push { cls := .type "list", data := .seq #[] }).objs.size = h.objs.size + 1 := Heap.size_push ..
  unfold Builtin.List.listExtendWith
  refine wpAny_bind (wpAny_typeOf (T := "set") ⟨_, ho1, rfl⟩ ?_)
  have h1 : Builtin.List.listSameRef (.ref h.objs.size) (.ref S) = false := by simp [Builtin.List.listSameRef]; exact Nat.ne_of_gt hS
  rw [if_neg (by rw [h1]; decide)]
  refine wpAny_bind (iter_set (s := s) ho1 X.fits X.bd fun h₁ d first out k₁ W => ?_)
  obtain ⟨fp, St, G, st, hfp⟩ := gives_of (A := A.in1) hh X (k₁.all _ _ ho1) W
  have hI : (h₁.push (sit first 0 S es.size ep)).get? h₁.objs.size = some (sit first 0 S es.size ep) := Heap.get?_push_size _ rfl
  have hS2 : (h₁.push (sit first 0 S es.size ep)).get? S = some (sObj es ep t) := Heap.get?_push_of_some _ (k₁.all _ _ ho1)
  have hD2 : (h₁.push (sit first 0 S es.size ep)).get? h.objs.size = some { cls := .type "list", data := .seq #[] } := Heap.get?_push_of_some _ (k₁.all _ _ hD1)
  refine wpAny_bind (wpAny_holding (hint_set ⟨_, hS2, rfl⟩ ?_))
  refine wpAny_ite_split (fun _ => ?_) (fun hab => absurd (by decide +kernel) hab)
  refine wpAny_bind (wpAny_rule ?_)
  refine wpAny_bind ?_
  show wpAny _ _ (updateSeq h.objs.size (·.push .none) >>= fun _ => updateSeq h.objs.size (·.pop)) _ _ _
  refine wpAny_bind (wpAny_updateSeq hD2 rfl ?_)
  have hD3 := Heap.get?_update_self (Obj.mapSeq (·.push Value.none)) hD2 rfl
  refine wpAny_updateSeq (hz := by seq_fits) hD3 rfl ?_
  have hD4 := Heap.get?_update_self (Obj.mapSeq (·.pop)) hD3 rfl
  have hDlt : h.objs.size < h₁.objs.size := Heap.lt_size (k₁.all _ _ hD1)
  have hDf : h.objs.size ∉ fp := fun hm => hfp _ hm [] ⟨0, k₁.all _ _ hD1⟩
  have houtlen : out.length = es.size := by rw [W.pm.length_eq]; simp
  have hz : out.length ≤ sizeLine := by rw [houtlen]; exact fits_of_scanBound X.bd
  refine wpAny_pure ⟨plainId_quiet PySem.F.plain_extend_loop _, ext_loop G hz h.objs.size hDf _ out.length 0 _ _ rfl (Nat.zero_le _) (G.frame _ _ _ st fun b hb o e => ?_) hD4 fun h' c' hk' hD' => ?_⟩
  · have hb' : h.objs.size ≠ b := fun e => hDf (e ▸ hb)
    exact (Heap.get?_update_other _ _ hb').trans ((Heap.get?_update_other _ _ hb').trans e)
  · show wpAny _ A (load h.objs.size >>= _) _ _ _
    refine wpAny_bind (wpAny_load hD' ?_)
    refine wpAny_pure ?_
    have hv : ∀ v ∈ out, ∃ x u, v = .str x u := fun v hv => by
      obtain ⟨e, he, rfl⟩ := List.mem_map.mp (W.pm.mem_iff.mp hv)
      obtain ⟨⟨k', hk', _⟩, _⟩ := X.el e he
      obtain ⟨u, e'⟩ := isStrOf_iff.mp hk'
      exact ⟨k', u, e'⟩
    have sv : ∀ l : List Value, (∀ v ∈ l, ∃ x u, v = .str x u) → StrVals (l.map strOf) l := by
      intro l
      induction l with
      | nil => intro _; exact .nil
      | cons v l ih =>
        intro hl
        obtain ⟨x, u, rfl⟩ := hl v List.mem_cons_self
        exact .cons ⟨u, rfl⟩ (ih fun v hv => hl v (List.mem_cons_of_mem _ hv))
    refine hQ d h' tk out.toArray.toList (out.map strOf) (sv _ hv) ?_ (.ofAll fun b o e => ?_)
    · refine (W.pm.map _).trans ?_
      rw [List.map_map]; exact X.pm
    · have hb1 : b ≠ h.objs.size := Nat.ne_of_lt (Heap.lt_size e)
      have hb2 : b ≠ h₁.objs.size := Nat.ne_of_lt (Nat.lt_trans (Heap.lt_size e) hDlt)
      exact hk' b o hb1 hb2 ((Heap.get?_update_other _ _ (Ne.symm hb1)).trans ((Heap.get?_update_other _ _ (Ne.symm hb1)).trans (Heap.get?_push_of_some _ (k₁.all _ _ (Heap.get?_push_of_some _ e)))))
end
end Mine

namespace Mine

theorem StrVals.are {ss : List Str} {vs : List Value} (x : StrVals ss vs) : StrsAre vs ss := by
  induction x with
  | nil => exact .nil
  | cons h _ ih => obtain ⟨t, rfl⟩ := h; exact .cons _ t ih
theorem StrVals.of : ∀ {vs : List Value} {ss : List Str}, StrsAre vs ss → StrVals ss vs
  | _, _, .nil => .nil
  | _, _, .cons x t r => .cons ⟨t, rfl⟩ (StrVals.of r)

section
variable {w : World} {A : Around} {E : Value → Shared → Prop} {s : Shared} {S : Addr}

theorem sortedHeap_keeps {h : Heap} {a : Addr} {vs : List Value} {out : Array Value} {n : Nat} (ho : h.get? a = some (seqObj "list" vs.toArray n)) :
    (∀ b o, b ≠ a → h.get? b = some o → (sortedHeap h a vs out).get? b = some o) ∧ ∃ e, (sortedHeap h a vs out).get? a = some (seqObj "list" out e) := by
  unfold sortedHeap
  have ha : a < h.objs.size := Heap.lt_size ho
  refine ⟨fun b o hb e => ?_, ?_⟩
  · refine (Heap.get?_update_other _ _ (Ne.symm hb)).trans (Heap.get?_push_of_some _ (Heap.get?_push_of_some _ ?_))
    exact (Heap.get?_update_other _ _ (Ne.symm hb)).trans e
  · obtain ⟨e1, h1⟩ : ∃ e1, (h.update a (Obj.mapSeq fun _ => #[])).get? a = some (seqObj "list" #[] e1) := ⟨_, get?_update_seq ho (fun _ => #[])⟩
    exact ⟨_, get?_update_seq (Heap.get?_push_of_some _ (Heap.get?_push_of_some _ h1)) (fun _ => out)⟩

theorem call_sorted_set {h : Heap} {tk : Nat} {ks : List Str} {Q : Value → Shared → Prop} (hh : A.handled = none) (X : SetX w h S ks) (hl : ks.length < 64)
    (hQ : ∀ d h' tk' D vs ss, Ls h' D vs → StrVals ss vs → ss.Perm ks → sortedS ss = true → h.get? D = none → Kx Non h h' → Q (.ref D) (Sh { s with drawn := d } h' tk')) :
    wpAny (model prg w) A (call (.builtin "sorted") [.ref S]) Q E (Sh s h tk) := by
  refine call_function_entry kind_sorted plain_sorted entry_sorted (args_sorted1 _) ?_
  unfold Builtin.«sorted»
  refine wpAny_bind (m := checkCount "sorted" 1 1 _) (wpAny_pure ?_)
  refine wpAny_bind (collect_set (A := A.in1) hh X fun d h' tk' out ss hv hp k => ?_)
  have hlen : out.length < 64 := by rw [← Paired.length hv, hp.length_eq]; exact hl
  refine wpAny_bind (wpAny_newList ?_ (by rw [sizeLine_eq]; omega))
  have hoL : (h'.push (seqObj "list" out.toArray 0)).get? h'.objs.size = some (seqObj "list" out.toArray 0) := Heap.get?_push_size _ rfl
  have hS := hv.are
  refine wpAny_bind (wpAny_holding (wpAny_call_entry slot_list_sort ⟨_, hoL, rfl⟩ entry_list_sort (list_sort_treeK strKind_oneLt hoL hS.keysOf (fun v₁ v₂ rest e => keyKind_strs (by rw [← e]; exact hS)) hlen fun st' a1 a2 => ⟨_, rfl, ?_⟩) (args_list_sort _)))
  obtain ⟨ss', h1, h2, h3⟩ := sorted_out_str hS a1 a2
  obtain ⟨b1, e, b2⟩ := sortedHeap_keeps (out := (arrOf st').map (·.2)) hoL
  have hD : h.get? h'.objs.size = none := k.gone_ge (Nat.le_refl _)
  refine wpAny_pure ⟨_, rfl, hQ d _ _ h'.objs.size ((arrOf st').map (·.2)).toList ss' ⟨e, ?_⟩ (StrVals.of h1) (h2.trans hp) h3 hD (.ofAll fun b o eb => ?_)⟩
  · rw [b2]
  · refine b1 b o (fun hb => ?_) (Heap.get?_push_of_some _ (k.all _ _ eb))
    rw [hb] at eb; rw [hD] at eb; cases eb
theorem call_sorted_ls {h : Heap} {tk : Nat} {a : Addr} {us : List Value} {ks : List Str} {Q : Value → Shared → Prop} (T : Ls h a us) (hv : StrVals ks us) (hl : ks.length < 64)
    (hQ : ∀ h' D vs ss, Ls h' D vs → StrVals ss vs → ss.Perm ks → sortedS ss = true → h.get? D = none → Kx Non h h' → Q (.ref D) (Sh s h' tk)) :
    wpAny (model prg w) A (call (.builtin "sorted") [.ref a]) Q E (Sh s h tk) := by
  have hlen : us.length < 64 := by rw [← Paired.length hv]; exact hl
  refine sorted_strs (s := Sh s h tk) T.isList hv.are hlen fun out ss' a1 a2 a3 => ?_
  obtain ⟨e, he⟩ := sortedAll_at h us out
  exact hQ _ _ out.toList ss' ⟨e, by simpa using he⟩ (StrVals.of a1) a2 a3 (get_none_of_ge (Nat.le_succ _)) (.ofAll fun b o e => sortedAll_old e)
end

/-- a sorted list of texts is settled by what it holds -/
theorem risingS_pair : ∀ (l : List Str) (p : Str), risingS p l = true → (p :: l).Pairwise (fun a b => a.cps.toList ≤ b.cps.toList)
  | [], p, _ => by simp
  | x :: r, p, h => by
    have h' : (!Spec.ltCps x.cps.toList p.cps.toList && risingS x r) = true := h
    rw [Bool.and_eq_true] at h'
    have ih := risingS_pair r x h'.2
    have h1 : p.cps.toList ≤ x.cps.toList := by
      have := h'.1
      rw [ltCps_eq] at this
      exact List.not_lt.mp (by simpa using this)
    refine List.pairwise_cons.mpr ⟨fun y hy => ?_, ih⟩
    rcases List.mem_cons.mp hy with rfl | hy
    · exact h1
    · exact List.le_trans h1 ((List.pairwise_cons.mp ih).1 y hy)
theorem sortedS_pair : ∀ {l : List Str}, sortedS l = true → l.Pairwise (fun a b => a.cps.toList ≤ b.cps.toList)
  | [], _ => .nil
  | x :: r, h => risingS_pair r x h
theorem str_ext {a b : Str} (h : a.cps.toList = b.cps.toList) : a = b := by
  cases a; cases b; exact congrArg Str.mk (Array.toList_inj.mp h)
theorem pair_unique : ∀ {l k : List Str}, l.Perm k → l.Pairwise (fun a b => a.cps.toList ≤ b.cps.toList) → k.Pairwise (fun a b => a.cps.toList ≤ b.cps.toList) → l = k
  | [], k, hp, _, _ => hp.nil_eq
  | a :: l, [], hp, _, _ => absurd hp.symm.nil_eq (by simp)
  | a :: l, b :: k, hp, hl, hk => by
    have ha := List.pairwise_cons.mp hl
    have hb := List.pairwise_cons.mp hk
    have hab : a = b := by
      have h1 : a ∈ b :: k := hp.mem_iff.mp List.mem_cons_self
      have h2 : b ∈ a :: l := hp.mem_iff.mpr List.mem_cons_self
      rcases List.mem_cons.mp h1 with e | h1
      · exact e
      rcases List.mem_cons.mp h2 with e | h2
      · exact e.symm
      exact str_ext (List.le_antisymm (ha.1 b h2) (hb.1 a h1))
    subst hab
    rw [pair_unique (hp.cons_inv) ha.2 hb.2]
theorem sortedS_unique {l k : List Str} (hp : l.Perm k) (hl : sortedS l = true) (hk : sortedS k = true) : l = k := pair_unique hp (sortedS_pair hl) (sortedS_pair hk)
end Mine

namespace Mine

theorem mem_subsL {u : Tree} : ∀ {ts : List Tree}, u ∈ subsL ts ↔ ∃ t ∈ ts, u ∈ subs t
  | [] => by simp [subsL]
  | t :: ts => by rw [subsL, List.mem_append, mem_subsL]; simp
theorem subs_trans : ∀ (t : Tree) {u : Tree}, u ∈ subs t → (subs u).length ≤ (subs t).length := by
  refine tree_ind fun op ks ih u hu => ?_
  rw [subs] at hu ⊢
  rcases List.mem_cons.mp hu with rfl | hu
  · rw [subs]; exact Nat.le_refl _
  · obtain ⟨k, hk, hu⟩ := mem_subsL.mp hu
    have h1 := ih k hk hu
    have h2 := subs_le_of_mem hk
    simp only [List.length_cons]; omega
theorem subs_kids (u : Tree) : (subs u).length = (subsL u.kids).length + 1 := by cases u; rw [subs]; rfl
theorem kids_le {t u : Tree} (h : u ∈ subs t) : u.kids.length ≤ (subs t).length := by
  have h1 := subs_trans t h
  have h2 := len_le_subsL u.kids
  have h3 := subs_kids u
  omega

def isVarT (u : Tree) : Bool := u.kids.isEmpty && startsQ u.op
def varsOf (us : List Tree) : List Str := (us.filter isVarT).map Tree.op
def varOps (t : Tree) : List Str := varsOf (subs t)
def OpsOk (t : Tree) : Prop := ∀ u ∈ subs t, u.op.cps.size ≤ 1000
theorem varsOf_snoc (us : List Tree) (u : Tree) : varsOf (us ++ [u]) = varsOf us ++ (if isVarT u then [u.op] else []) := by
  unfold varsOf
  rw [List.filter_append, List.map_append]
  cases h : isVarT u <;> simp [h]

section
variable {w : World} {A : Around} {s : Shared} {h : Heap} {tk : Nat} {h0 : Heap} {R : Result → Shared → Prop} {E : Value → Shared → Prop} {env : Env}

theorem g_isvar : nsIn (kf w.params) mainGlobals (Str.ofString "is_variable") = some (some (.ref 74)) := by k_is
theorem k_isvar : keepIn (kf w.params) (.ref 74) = true := by k_is
theorem g_sorted : nsIn (kf w.params) mainGlobals (Str.ofString "sorted") = some none := by k_is
theorem b_sorted : bootBuiltins (Str.ofString "sorted") = some (.builtin "sorted") := by boot_by_name
theorem g_set : nsIn (kf w.params) mainGlobals (Str.ofString "set") = some none := by k_is
theorem b_set : bootBuiltins (Str.ofString "set") = some (.type "set") := by boot_by_name

theorem variables_spec {t : Tree} {v : Value} (r : Rm (ht t + 2) A) (B : Bs (kf w.params) h0 h) (hT : IsT h t v) (hsz : (subs t).length ≤ 60) (hht : ht t ≤ 100) (hops : OpsOk t)
    (hR : ∀ d h' tk' D vs ss, h.get? D = none → Ls h' D vs → StrVals ss vs → ss.Perm (once (varOps t)) → sortedS ss = true → Kx Non h h' → R (.ok (.ret (.ref D))) (Sh { s with drawn := d } h' tk')) :
    codeAny (model prg w) A (.call (.ref 79) ⟨[v], []⟩) R (Sh s h tk) := by
  refine enter r B (by k_is) (by k_is) (binds := [(Str.ofString "t", v)]) rfl (by rfl) (fun L h₁ tk₁ hL r₁ B₁ k₁ hm F => ?_)
  refine x_ret (Call_ (nm_B B₁ g_sorted b_sorted (callWith_builtin1 (ar_cons (Call_ (nm_B B₁ g_set b_set (callWith_type1 (ar_cons ?_))))))))
  refine comp_W (s := s) (cl := []) rfl (by decide) (by decide) ?_
  refine Call_ (nm_K B₁ g_parts (cw_K k_parts (ar_cons (nm_L F.ns (v := v) rfl (ar_nil ⟨B₁, wpAny_call (parts_spec t r₁ B₁ (hT.kx k₁) (by omega) hht fun h₂ tk₂ D vs hD l2 pv k₂ => ?_)⟩)))))
  have B₂ := k₂.bs B₁
  have hlen : vs.length = (subs t).length := (Paired.length pv).symm
  refine ca_ls2 r₁.h l2 (by omega) (fun v' hv' => ?_) Non (fun b hb => hb.elim) (fun i ys h' => Bs (kf w.params) h0 h' ∧ PartsV (ht t) h' (subs t) vs ∧ StrVals (varsOf ((subs t).take i)) ys)
    ⟨B₂, pv, .nil⟩ (fun i ys h' h'' ⟨q1, q2, q3⟩ k => ⟨q1.kx k fun b hb => B₂.off_new hb.1, q2.kx k, q3⟩) (by decide) (fun i b ys h' hb ⟨q1, q2, q3⟩ => ?_) (fun i b p1 v1 ys h3 tk3 m3 hb tb ⟨q1, q2, q3⟩ n3 e1 e2 => ?_) (fun ys h3 tk3 D3 hD3 ⟨q1, q2, q3⟩ l3 k3 => ?_)
  · obtain ⟨_, _, b', _, _, _, e, _⟩ := Paired.get' pv (List.mem_iff_getElem?.mp hv' |>.choose_spec)
    exact ⟨b', e⟩
  · obtain ⟨u', _, b'', p', path, vt, e, tb', _⟩ := Paired.get' q2 hb
    cases e
    exact ⟨_, _, tb'⟩
  · obtain ⟨u, hu, b'', p', path, vt, e, tb'', tpath, hpl, iu⟩ := Paired.get' q2 hb
    cases e
    have := tb.inj tb''
    cases this
    have hmem : u ∈ subs t := List.mem_of_getElem? hu
    obtain ⟨a, to, kvs, rfl, Ta, ik⟩ := iu.open
    have hk := kids_le hmem
    have hkv : kvs.length ≤ 60 := by rw [ik.length]; omega
    have ho := hops u hmem
    refine wpAny_tests_one (wpAny_isTrue_value (Call_ (nm_K q1 g_isvar (cw_K k_isvar (ar_cons (nm_L n3 e2 (ar_nil ⟨q1, wpAny_call (isvar_spec (n := ht t) r₁ q1 Ta (by omega) (by show u.op.cps.size ≤ _; omega) fun h4 tk4 k4 => ?_)⟩)))))))
    refine wpAny_truthy_bool ?_
    have hv : (kvs.isEmpty && startsQ u.op) = isVarT u := by unfold isVarT; rw [isEmpty_of_len ik.length]
    rw [hv]
    have htake : (subs t).take (i + 1) = (subs t).take i ++ [u] := by rw [List.take_add_one, hu]; rfl
    cases hb : isVarT u with
    | true =>
      simp only [if_true]
      refine Subscript_ (nm_L (Ns.kx n3 k4 fun h => h) e2 (e_int fun t5 tk5 => sub_tp (Ta.kx k4) (by decide) (by decide) (x := .str u.op to) rfl ⟨h4, tk5, rfl, k4, k4.bs q1, q2.kx k4, ?_⟩))
      rw [htake, varsOf_snoc, hb]
      exact Paired.app q3 (.cons ⟨to, rfl⟩ .nil)
    | false =>
      simp only [Bool.false_eq_true, if_false]
      refine ⟨h4, tk4, rfl, k4, k4.bs q1, q2.kx k4, ?_⟩
      rw [htake, varsOf_snoc, hb]
      simpa using q3
  · rw [hlen, List.take_length] at q3
    have hxl : (varOps t).length ≤ 60 := by
      have : (varOps t).length ≤ (subs t).length := by unfold varOps varsOf; rw [List.length_map]; exact List.length_filter_le _ _
      omega
    have hyl : ys.length ≤ 60 := by rw [← Paired.length q3]; exact hxl
    refine ar_nil (call_setL r₁.h l3 q3 (by unfold scanBound; omega) fun h4 tk4 X k4 => ?_)
    refine ar_nil (call_sorted_set r₁.h X (by have := once_len (varOps t); exact Nat.lt_of_le_of_lt this (by omega)) fun d h5 tk5 D5 vs5 ss l5 sv hp hs hD5 k5 => ?_)
    have kk := ((k₁.trans k₂).trans k3).trans k4
    exact hR d h5 tk5 D5 vs5 ss (kk.gone hD5) l5 sv hp hs (kk.trans k5)

theorem g_vars : nsIn (kf w.params) mainGlobals (Str.ofString "variables") = some (some (.ref 79)) := by k_is
theorem k_vars : keepIn (kf w.params) (.ref 79) = true := by k_is
theorem is_ground_spec {t : Tree} {v : Value} (r : Rm (ht t + 3) A) (B : Bs (kf w.params) h0 h) (hT : IsT h t v) (hsz : (subs t).length ≤ 60) (hht : ht t ≤ 100) (hops : OpsOk t)
    (hR : ∀ d h' tk', Kx Non h h' → R (.ok (.ret (.bool (varOps t).isEmpty))) (Sh { s with drawn := d } h' tk')) :
    codeAny (model prg w) A (.call (.ref 86) ⟨[v], []⟩) R (Sh s h tk) := by
  refine enter r B (by k_is) (by k_is) (binds := [(Str.ofString "t", v)]) rfl (by rfl) (fun L h₁ tk₁ hL r₁ B₁ k₁ hm F => ?_)
  refine x_ret (wpAny_Compare1 (Call_ (nm_K B₁ g_vars (cw_K k_vars (ar_cons (nm_L F.ns (v := v) rfl (ar_nil ⟨B₁, wpAny_call (variables_spec r₁ B₁ (hT.kx k₁) hsz hht hops fun d h₂ tk₂ D vs ss hD l2 sv hp hs k₂ => ?_)⟩)))))))
  refine e_nil (s := { s with drawn := d }) fun h3 l3 k3 => eq_ls_nil r₁.units (l2.kx k3 fun h => h) l3 ?_
  have e : vs.isEmpty = (varOps t).isEmpty := by
    have h1 : vs.isEmpty = ss.isEmpty := isEmpty_of_len (Paired.length sv).symm
    have h2 : ss.isEmpty = (once (varOps t)).isEmpty := isEmpty_of_len hp.length_eq
    rw [h1, h2]
    cases hv : varOps t with
    | nil => rfl
    | cons x l =>
      have : x ∈ once (varOps t) := (mem_once _ _).mpr (by rw [hv]; exact List.mem_cons_self)
      rw [hv] at this
      cases ho : once (x :: l) with
      | nil => rw [ho] at this; cases this
      | cons _ _ => rfl
  rw [e]
  exact hR d h3 tk₂ ((k₁.trans k₂).trans k3)
end
end Mine

namespace Mine

section
variable {prog : Program} {w : World} {A : Around} {s : Shared} {h : Heap} {tk : Nat} {h0 : Heap} {R : Result → Shared → Prop} {E : Value → Shared → Prop} {env : Env}

/-- a, b = x, y (swapped stores) -/
theorem x_swap {elts : List Expr} {k : Nat} {tpos pos : Pos} {value : Expr} {rest : List Stmt} {names : List Str} {Q : Flow → Shared → Prop} {st : Shared} (hh : A.handled = none)
    (hv : wpAny (model prog w) A (eval value env) (fun v s₁ => ∃ a vs h₁ tk₁, v = .ref a ∧ s₁ = Sh s h₁ tk₁ ∧ Tp h₁ a vs ∧ vs.length = names.length ∧ ∀ h', Kx Non h₁ h' →
      wpAny (model prog w) A (assignInOrder (names.reverse.map fun n => bindName env n) vs.reverse) (fun _ s₂ => wpAny (model prog w) A (execs rest env) Q E s₂) E (Sh s h' tk₁)) E st)
    (hw : swappedStores [.Tuple elts k tpos] value env = pure (some names) := by rfl) (hs : swapsWithSole [.Tuple elts k tpos] value pos.line env = pure false := by rfl) :
    wpAny (model prog w) A (execs (.Assign [.Tuple elts k tpos] value pos :: rest) env) Q E st := by
  refine wpAny_execs_cons (Assign_Tuple_swapped (names := names) (wpAny_mono hv (fun v s₁ ⟨a, vs, h₁, tk₁, e1, e2, T, hl, x⟩ => ?_) fun _ _ z => z) hs hw)
  subst e1 e2
  rw [← hl, ← List.size_toArray]
  refine wpAny_unpackItems_tuple hh T.isTuple fun h' hx => ?_
  exact x h' (.ofAll fun b o e => hx b o (Nat.ne_of_lt (Heap.lt_size e)) e)
/-- a, b = x, y (by the tuple) -/
theorem x_tup {elts : List Expr} {k : Nat} {tpos pos : Pos} {value : Expr} {rest : List Stmt} {Q : Flow → Shared → Prop} {st : Shared}
    (hv : wpAny (model prog w) A (eval value env) (fun v s₁ => wpAny (model prog w) A (assign (.Tuple elts k tpos) env v) (fun _ s₂ => wpAny (model prog w) A (execs rest env) Q E s₂) E s₁) E st)
    (hw : swappedStores [.Tuple elts k tpos] value env = pure none := by rfl) (hs : swapsWithSole [.Tuple elts k tpos] value pos.line env = pure false := by rfl) :
    wpAny (model prog w) A (execs (.Assign [.Tuple elts k tpos] value pos :: rest) env) Q E st :=
  wpAny_execs_cons (Assign_Tuple hv hs hw)
theorem in_order {f : Value → Sem Unit} {fs : List (Value → Sem Unit)} {v : Value} {vs : List Value} {Q : Unit → Shared → Prop} (hh : wpAny (model prog w) A (f v) (fun _ s₁ => wpAny (model prog w) A (assignInOrder fs vs) Q E s₁) E s) :
    wpAny (model prog w) A (assignInOrder (f :: fs) (v :: vs)) Q E s := wpAny_assignInOrder_more hh
theorem in_order0 {Q : Unit → Shared → Prop} (hh : Q () s) : wpAny (model prog w) A (assignInOrder [] []) Q E s := wpAny_assignInOrder_none hh

/-- t[::-1] -/
theorem adjust_rev (n : Nat) : Builtin.Slice.sliceAdjust none none (-1) (n : Int) = ((n : Int) - 1, -1) := by
  unfold Builtin.Slice.sliceAdjust
  simp
theorem places_rev (n : Nat) : Builtin.Slice.slicePlaces ((n : Int) - 1) (-1) (-1) = n := by
  unfold Builtin.Slice.slicePlaces
  have h1 : ¬ ((-1 : Int) > 0) := by decide
  rw [if_neg h1]
  split
  · have : ((n : Int) - 1 - -1 - 1) / (- -1) = (n : Int) - 1 := by
      rw [show (- -1 : Int) = 1 by decide, Int.ediv_one]; omega
    rw [this]; omega
  · omega
theorem sliceApplied_rev {sl : Addr} {n : Nat} {u : Tok} {Q : Int × Int × Nat → Shared → Prop} (hs : s.heap.IsSliceOf sl .none .none (.int (-1) u)) (h : Q ((n : Int) - 1, -1, n) s) :
    wpAny (model prog w) A (Builtin.Slice.sliceApplied (.ref sl) (pure (n : Int))) Q E s := by
  obtain ⟨os, hos, hcs, hds⟩ := id hs
  unfold Builtin.Slice.sliceApplied Builtin.Slice.sliceFields
  refine wpAny_bind (wpAny_bind (wpAny_field hos hds (x := .none) rfl (wpAny_bind (wpAny_field hos hds (x := .none) rfl (wpAny_bind (wpAny_field hos hds (x := .int (-1) u) rfl (wpAny_pure ?_)))))))
  refine wpAny_bind (slicePart_int ?_)
  show wpAny _ _ (if ((-1 : Int) == 0) = true then _ else _) _ _ s
  rw [if_neg (by decide)]
  refine wpAny_bind (slicePart_none (wpAny_bind (slicePart_none (wpAny_bind (wpAny_pure ?_)))))
  show wpAny _ _ (match Builtin.Slice.sliceAdjust none none (-1) (n : Int) with | (lo, hi) => pure (lo, (-1 : Int), Builtin.Slice.slicePlaces lo hi (-1))) _ _ s
  rw [adjust_rev n]
  show wpAny _ _ (pure ((n : Int) - 1, (-1 : Int), Builtin.Slice.slicePlaces ((n : Int) - 1) (-1) (-1))) _ _ s
  rw [places_rev n]
  exact wpAny_pure h
theorem pick_rev (xs : Array Value) : ((List.range xs.size).filterMap fun (k : Nat) => xs[(((xs.size : Int) - 1) + (k : Int) * (-1)).toNat]?).toArray = xs.toList.reverse.toArray := by
  congr 1
  obtain ⟨l⟩ := xs
  apply List.ext_getElem?
  intro i
  have key : ∀ (l : List Value) (m : Nat), m ≤ l.length → (List.range m).filterMap (fun (k : Nat) => (l.toArray)[(((l.length : Int) - 1) + (k : Int) * (-1)).toNat]?) = l.reverse.take m := by
    intro l m
    induction m with
    | zero => intro _; simp
    | succ m ih =>
      intro hm
      rw [List.range_succ, List.filterMap_append, ih (by omega), List.take_add_one]
      congr 1
      have e1 : (((l.length : Int) - 1) + (m : Int) * (-1)).toNat = l.length - 1 - m := by omega
      have h2 : l.length - 1 - m < l.length := by omega
      simp only [List.filterMap_cons, List.filterMap_nil, e1]
      rw [List.getElem?_toArray, List.getElem?_eq_getElem h2, List.getElem?_reverse (by omega), List.getElem?_eq_getElem h2]
      rfl
  have := key l l.length (Nat.le_refl _)
  show ((List.range l.length).filterMap (fun (k : Nat) => (l.toArray)[(((l.length : Int) - 1) + (k : Int) * (-1)).toNat]?))[i]? = _
  rw [this, List.take_of_length_le (by rw [List.length_reverse]; exact Nat.le_refl _)]
theorem getItem_tuple_rev {t sl : Addr} {items : Array Value} {u : Tok} {Q : Value → Shared → Prop} (ht : s.heap.IsTuple t items) (hs : s.heap.IsSliceOf sl .none .none (.int (-1) u))
    (h : Q (.ref s.heap.objs.size) { s with heap := s.heap.push { cls := .type "tuple", data := .seq items.toList.reverse.toArray } }) (hsz : items.size ≤ sizeLine) : wpAny (model prog w) A (getItem (.ref t) (.ref sl)) Q E s := by
  have hdrop : sizeOk (.seq items.toList.reverse.toArray) := by
    show items.toList.reverse.toArray.size ≤ sizeLine
    simpa using hsz
  obtain ⟨os, hos, hcs, hds⟩ := id hs
  have hTs : s.TypeIs (.ref sl) "slice" := ⟨os, hos, hcs⟩
  unfold getItem
  try with_reducible refine wpAny_holding ?_
  first | refine wpAny_bind (wpAny_pure ?_) | skip
  refine wpAny_bind (wpAny_sequenceKey ht.typeIs (by decide) ?_)
  refine wpAny_bind (wpAny_callSpecial?_slot (name := Str.ofString "__getitem__") ht.typeIs slot_tuple_getitem
    (wpAny_call_entry slot_tuple_getitem ht.typeIs entry_tuple_getitem ?_ (args_tuple_getitem _ _)))
  show wpAny _ _ (Builtin.Tuple.tupleItemsOf (.ref t) >>= _) _ _ s
  refine wpAny_bind (tupleItemsOf_ ht ?_)
  refine wpAny_bind (wpAny_typeOf hTs ?_)
  rw [if_pos (by decide)]
  refine wpAny_bind (sliceApplied_rev hs ?_)
  show wpAny _ _ (if (((items.size : Int) - 1) == 0 && (-1 : Int) == 1 && items.size == items.size) = true then _ else _) _ _ s
  rw [if_neg (by simp), pick_rev items]
  first
    | exact wpAny_bind (m := Builtin.Tuple.tupleExact _) (wpAny_newObj_type (wpAny_pure ⟨_, rfl, wpAny_pure h⟩) hdrop)
    | exact wpAny_bind (m := Builtin.Tuple.tupleExact _) (wpAny_newObj_type (wpAny_bind (wpAny_pure (wpAny_pure ⟨_, rfl, wpAny_pure h⟩))) hdrop)
    | exact wpAny_bind (wpAny_bind (m := Builtin.Tuple.tupleExact _) (wpAny_newObj_type (wpAny_pure (wpAny_pure ⟨_, rfl, wpAny_pure h⟩)) hdrop))
    | exact wpAny_bind (wpAny_bind (m := Builtin.Tuple.tupleExact _) (wpAny_newObj_type (wpAny_pure ⟨_, rfl, wpAny_pure h⟩) hdrop))

theorem e_rev {value : Expr} {p0 p1 p2 p3 : Pos} {k : Nat} {Q : Value → Shared → Prop} {st : Shared}
    (hh : wpAny (model prog w) A (eval value env) (fun v s₁ => ∃ a vs h₁ tk₁, v = .ref a ∧ s₁ = Sh s h₁ tk₁ ∧ Tp h₁ a vs ∧ vs.length ≤ 99999 ∧ ∀ h' c tk', Tp h' c vs.reverse → h₁.get? c = none → Kx Non h₁ h' → Q (.ref c) (Sh s h' tk')) E st)
    (hs : ∀ (a : Addr) i, subscripted (.Slice none none (some (.UnaryOp .USub (.Constant (.int 1) k p0) p1)) p2) false (.ref a) i = operate [.ref a, i] (getItem (.ref a) i) := by intro _ _; with_unfolding_all rfl) :
    wpAny (model prog w) A (eval (.Subscript value (.Slice none none (some (.UnaryOp .USub (.Constant (.int 1) k p0) p1)) p2) p3) env) Q E st := by
  refine Subscript_ (wpAny_mono hh (fun v s₁ ⟨a, vs, h₁, tk₁, e1, e2, T, hsz, hQ⟩ => ?_) fun _ _ z => z)
  subst e1 e2
  refine wpAny_Slice (wpAny_evalPart_none (wpAny_evalPart_none (wpAny_evalPart_some ?_)))
  refine UnaryOp_ (wpAny_Constant_int (neg_int ?_))
  generalize (Sh s h₁ tk₁).toks + 1 = tk2
  have T' : Tp (h₁.push { cls := .type "slice", data := .fields #[.none, .none, .int (-1) tk2] }) a vs := T.kx (Kx.push _ _)
  refine tail_any (s := { Sh s h₁ (tk2 + 1) with heap := h₁.push { cls := .type "slice", data := .fields #[.none, .none, .int (-1) tk2] } }) T'.typeIs slot_tuple_getitem.lookup
    (getItem_tuple_rev (u := tk2) T'.isTuple (Heap.IsSliceOf.new ..) ?_ (by rw [sizeLine_eq]; simp; omega)) (hs _ _)
  have e : vs.toArray.toList.reverse.toArray = vs.reverse.toArray := by simp
  rw [e]
  refine hQ _ _ _ (Tp.newTuple _ _) (get_none_of_ge ?_) ((Kx.push _ _).trans (Kx.push _ _))
  show h₁.objs.size ≤ (h₁.push _).objs.size
  rw [Heap.size_push]; exact Nat.le_succ _
end
end Mine

namespace Mine

def opsL : List Str := [Str.ofString "a", Str.ofString "?x", Str.ofString "f", Str.ofString "?y", Str.ofString "g", Str.ofString "?", Str.ofString "a?", Str.ofString "b c", Str.ofString "(d", Str.ofString ""]

def RowV (h : Heap) (u : Tree) (v : Value) : Prop := ∃ b to tm, v = .ref b ∧ Tp h b [.str u.op to, .int u.kids.length tm]
def RowsV (h : Heap) (us : List Tree) (vs : List Value) : Prop := Paired (RowV h) us vs
theorem RowV.kx {P : Addr → Prop} {h h' : Heap} {u : Tree} {v : Value} (x : RowV h u v) (k : Kx P h h') : RowV h' u v := by
  obtain ⟨b, to, tm, e, T⟩ := x; exact ⟨b, to, tm, e, T.kx k⟩
theorem RowsV.kx {P : Addr → Prop} {h h' : Heap} {us : List Tree} {vs : List Value} (x : RowsV h us vs) (k : Kx P h h') : RowsV h' us vs := Paired.mono' x fun _ _ y => y.kx k
theorem IsTs.app {h : Heap} : ∀ {ts : List Tree} {vs : List Value} {us : List Tree} {ws : List Value}, IsTs h ts vs → IsTs h us ws → IsTs h (ts ++ us) (vs ++ ws)
  | [], vs, us, ws, x, y => by rw [IsTs] at x; subst x; exact y
  | t :: ts, vs, us, ws, x, y => by
    rw [IsTs] at x; obtain ⟨v', vs', e', z, r⟩ := x
    subst e'
    show IsTs h (t :: (ts ++ us)) (v' :: (vs' ++ ws))
    rw [IsTs]; exact ⟨v', _, rfl, z, r.app y⟩
theorem IsTs.rev {h : Heap} : ∀ {ts : List Tree} {vs : List Value}, IsTs h ts vs → IsTs h ts.reverse vs.reverse
  | [], vs, x => by rw [IsTs] at x; subst x; show IsTs h [] []; rw [IsTs]
  | t :: ts, vs, x => by
    rw [IsTs] at x; obtain ⟨v', vs', e', z, r⟩ := x
    subst e'
    rw [List.reverse_cons, List.reverse_cons]
    exact r.rev.snoc z
theorem IsTs.single {h : Heap} {t : Tree} {v : Value} (x : IsT h t v) : IsTs h [t] [v] := by rw [IsTs]; exact ⟨v, [], rfl, x, by rw [IsTs]⟩
theorem IsTs.unsnoc {h : Heap} : ∀ {ts : List Tree} {vs : List Value} {v : Value}, IsTs h ts (vs ++ [v]) → ∃ us t, ts = us ++ [t] ∧ IsTs h us vs ∧ IsT h t v
  | [], vs, v, x => by rw [IsTs] at x; exact absurd x (by simp)
  | t :: ts, [], v, x => by
    rw [IsTs] at x; obtain ⟨v', vs', e', z, r⟩ := x
    cases e'
    cases ts with
    | nil => exact ⟨[], t, rfl, by rw [IsTs], z⟩
    | cons u us => rw [IsTs] at r; obtain ⟨_, _, e, _⟩ := r; cases e
  | t :: ts, v0 :: vs, v, x => by
    rw [IsTs] at x; obtain ⟨v', vs', e', z, r⟩ := x
    cases e'
    obtain ⟨us, t', e, a, b⟩ := r.unsnoc
    exact ⟨t :: us, t', by rw [e]; rfl, by rw [IsTs]; exact ⟨_, _, rfl, z, a⟩, b⟩

section
variable {w : World} {A : Around} {s : Shared} {h : Heap} {tk : Nat} {h0 : Heap} {R : Result → Shared → Prop} {E : Value → Shared → Prop} {env : Env}

theorem ops_spec {n : Nat} (r : Rm (n + 1) A) (B : Bs (kf w.params) h0 h)
    (hR : ∀ h' tk' D vs, h.get? D = none → Ls h' D vs → StrVals opsL vs → Kx Non h h' → R (.ok (.ret (.ref D))) (Sh s h' tk')) :
    codeAny (model prg w) A (.call (.ref 216) ⟨[], []⟩) R (Sh s h tk) := by
  refine enter r B (by k_is) (by k_is) (binds := []) ?c1 ?c2 (fun L h₁ tk₁ hL r₁ B₁ k₁ hm F => ?_)
  case c1 => rfl
  case c2 => rfl
  refine x_ret ?_
  refine e_list (s := s) ?_
  with_reducible refine ar_texts (xs := opsL) ?t ?u
  case t =>
    unfold opsL
    repeat (first | exact Texts.nil | refine Texts.cons ?_)
  intro vs tk' sv
  refine ⟨h₁, _, rfl, ?_, fun h' l k => ?_⟩
  · rw [← Paired.length sv]; decide
  refine hR _ _ _ _ ?_ l sv (k₁.trans k)
  exact get_none_of_ge (Nat.le_of_lt (Nat.lt_of_le_of_lt (Nat.le_of_eq hL.symm) F.ns.lt))

theorem ne_ls_nil {a b : Addr} {vs : List Value} {Q : Value → Shared → Prop} (hu : A.units < cLine) (T : Ls s.heap a vs) (T2 : Ls s.heap b []) (hQ : Q (.bool (!vs.isEmpty)) s) : wpAny (model prg w) A (compareOp .NotEq (.ref a) (.ref b)) Q E s := by
  cases vs with
  | nil => exact SeqAt.RcNeAt.lists (e := fun _ => true) T.isList T2.isList rfl hu (fun j h1 _ => absurd h1 (Nat.not_lt_zero j)) prg w E Q (by simpa using hQ)
  | cons v vs => exact SeqAt.RcNeAt.lists_lengths T.isList T2.isList (by simp) hu prg w E Q (by simpa using hQ)

theorem flat_spec {t : Tree} {v : Value} {n : Nat} (r : Rm (n + 1) A) (B : Bs (kf w.params) h0 h) (hT : IsT h t v) (hsz : (subs t).length ≤ 1000)
    (hR : ∀ h' tk' D vs, h.get? D = none → Ls h' D vs → RowsV h' (subs t) vs → Kx Non h h' → R (.ok (.ret (.ref D))) (Sh s h' tk')) :
    codeAny (model prg w) A (.call (.ref 247) ⟨[v], []⟩) R (Sh s h tk) := by
  refine enter r B (by k_is) (by k_is) (binds := [(Str.ofString "t", v)]) rfl (by rfl) (fun L h₁ tk₁ hL r₁ B₁ k₁ hm F => ?_)
  have hL1 : ∀ b, F.own b → h.get? b = none := fun b hb => get_none_of_ge (hm b hb).1
  refine x_swap (s := s) (names := [Str.ofString "rows", Str.ofString "waiting"]) r₁.h ?_
  refine e_tuple (s := s) (ar_cons (e_nil fun h₂ l2 k₂ => ar_cons (e_list (s := s) (ar_cons (nm_L (Ns.kx F.ns k₂ fun h => h) (v := v) rfl (ar_nil ⟨h₂, tk₁, rfl, by simp, fun h₃ l3 k₃ => ar_nil ⟨h₃, tk₁, rfl, by simp, fun h₄ t4 k₄ => ?_⟩⟩))))))
  refine ⟨_, _, h₄, tk₁, rfl, rfl, t4, rfl, fun h₅ k₅ => ?_⟩
  have F5 := (((F.non k₂).non k₃).non k₄).non k₅
  refine in_order (bindName_ (st_L F5 fun h₆ tk₆ F6 k₆ => in_order (bindName_ (st_L F6 fun h₇ tk₇ F7 k₇ => in_order0 ?_))))
  have kk1 : Kx Non h h₂ := k₁.trans k₂
  have kk5 : Kx Non h h₅ := ((kk1.trans k₃).trans k₄).trans k₅
  have kk7 : Kx Non h h₇ := (kk5.more k₆ fun b hb => hL1 b (.inl hb)).more k₇ fun b hb => hL1 b (.inl hb)
  have hRn : h.get? h₁.objs.size = none := k₁.gone_ge (Nat.le_refl _)
  have hWn : h.get? h₂.objs.size = none := kk1.gone_ge (Nat.le_refl _)
  have hRW : h₁.objs.size ≠ h₂.objs.size := Nat.ne_of_lt l2.lt
  have own1 : ∀ b, F.own b → b < h₁.objs.size := fun b hb => F.lt hb
  have own2 : ∀ b, F.own b → b < h₂.objs.size := fun b hb => Nat.lt_trans (F.lt hb) l2.lt
  have nR : ∀ b, F.own b → h₁.objs.size ≠ b := fun b hb => Nat.ne_of_gt (own1 b hb)
  have nW : ∀ b, F.own b → h₂.objs.size ≠ b := fun b hb => Nat.ne_of_gt (own2 b hb)
  have lR : Ls h₇ h₁.objs.size [] := ((l2.kx ((k₃.trans k₄).trans k₅) fun h => h).kx k₆ (nR _ (.inl rfl))).kx k₇ (nR _ (.inl rfl))
  have lW : Ls h₇ h₂.objs.size [v] := ((l3.kx (k₄.trans k₅) fun h => h).kx k₆ (nW _ (.inl rfl))).kx k₇ (nW _ (.inl rfl))
  refine x_while (fun n h' => ∃ m' cm', Fx _ m' cm' h' ∧ m' (Str.ofString "rows") = some (.ref h₁.objs.size) ∧ m' (Str.ofString "waiting") = some (.ref h₂.objs.size) ∧ ∃ us rv st wv, Ls h' h₁.objs.size rv ∧ RowsV h' us rv ∧
      Ls h' h₂.objs.size wv ∧ IsTs h' st wv ∧ us ++ subsL st.reverse = subs t ∧ n = (subsL st.reverse).length ∧ Kx Non h h') (subsL [t].reverse).length
    ⟨_, _, F7, rfl, rfl, [], [], [t], [v], lR, .nil, lW, IsTs.single (hT.kx kk7), by simp [subsL], rfl, kk7⟩ ?_
  rintro n h8 tk8 ⟨m', cm', F8, e1, e2, us, rv, st, wv, lR, pr, lW, ist, hus, rfl, kk⟩
  have hul : us.length + (subsL st.reverse).length = (subs t).length := by rw [← hus, List.length_append]
  have hrl : rv.length = us.length := (Paired.length pr).symm
  have hwl : wv.length = st.length := ist.length
  have hsl : st.length ≤ (subsL st.reverse).length := by have := len_le_subsL st.reverse; simpa using this
  refine wpAny_isTrue_Compare1 (nm_L F8.ns e2 (e_nil fun h9 l9 k9 => ne_ls_nil r₁.units (lW.kx k9 fun h => h) l9 (wpAny_truthy_bool ?_)))
  cases wv using snoc_ind with
  | h0 =>
    simp only [List.isEmpty_nil, Bool.not_true, Bool.false_eq_true, if_false]
    have est : st = [] := List.length_eq_zero_iff.mp hwl.symm
    subst est
    refine x_ret (nm_L (F8.non k9).ns e1 ?_)
    refine hR h9 tk8 _ rv hRn (lR.kx k9 fun h => h) ?_ (kk.trans k9)
    have : us = subs t := by simpa [subsL] using hus
    rw [← this]; exact pr.kx k9
  | h1 wv u _ =>
    have hne : (!(wv ++ [u]).isEmpty) = true := by simp
    rw [hne, if_pos rfl]
    obtain ⟨st', t', rfl, ist', it'⟩ := ist.unsnoc
    have hst : subsL (st' ++ [t']).reverse = subs t' ++ subsL st'.reverse := by rw [List.reverse_append]; rfl
    rw [hst] at hus hul
    have hsl' : st'.length ≤ (subsL st'.reverse).length := by have := len_le_subsL st'.reverse; simpa using this
    have F9 := F8.non k9
    refine x_set (e_lmeth0 PySem.F.slot_list_pop PySem.F.type_list_pop (nm_L F9.ns e2 ⟨_, _, rfl, lW.kx k9 (fun h => h), call_pop (lW.kx k9 fun h => h) (by simp at hwl; rw [List.length_append] at hul; omega) fun h10 l10 k10 => ?_⟩))
    have F10 := F9.kx k10 fun b hb hm' => nW b hm' hb.symm
    refine st_L F10 fun h11 tk11 F11 k11 => ?_
    have m11 : Kx (fun b => F.own b ∨ b = h₁.objs.size ∨ b = h₂.objs.size) h8 h11 := (k9.ofNon.trans (k10.mono fun b hb => .inr (.inr hb))).trans (k11.mono fun b hb => .inl (.inl hb))
    have n11 : ∀ b, (F.own b ∨ b = h₁.objs.size ∨ b = h₂.objs.size) → h.get? b = none := fun b hb => hb.elim (hL1 b) fun hb => hb.elim (fun e => e ▸ hRn) fun e => e ▸ hWn
    have kk11 := kk.more m11 n11
    have lR11 : Ls h11 h₁.objs.size rv := ((lR.kx k9 fun h => h).kx k10 hRW).kx k11 (nR _ (.inl rfl))
    have lW11 : Ls h11 h₂.objs.size wv := l10.kx k11 (nW _ (.inl rfl))
    obtain ⟨a, to, kvs, rfl, Ta, ik⟩ := (it'.kx m11).open
    have hkv : kvs.length ≤ 1000 := by
      have h1 := ik.length
      have h2 := len_le_subsL t'.kids
      have h3 := subs_kids t'
      rw [List.length_append] at hul
      omega
    refine x_expr (e_lmeth1 PySem.F.slot_list_append PySem.F.type_list_append (nm_L F11.ns (v := .ref h₁.objs.size) ((if_neg (by decide)).trans e1) ⟨_, _, rfl, lR11, ?_⟩))
    refine e_tuple (s := s) (ar_cons (Subscript_ (nm_L F11.ns (v := .ref a) (by simp) (e_int fun t12 tk12 => sub_tp Ta (by decide) (by decide) (x := .str t'.op to) rfl ?_))))
    refine ar_cons (wpAny_BinOp (e_len (kk11.bs B) (nm_L F11.ns (v := .ref a) (by simp) (len_tp Ta (by simp; omega) fun t13 tk13 => e_int fun t14 tk14 => sub_int (ar_nil ⟨h11, _, rfl, by simp, fun h12 l12 k12 => ?_⟩)))))
    have hone : (((Value.str t'.op to :: kvs).length : Nat) : Int) - 1 = (t'.kids.length : Int) := by rw [← ik.length]; simp
    rw [hone] at l12
    refine call_append (lR11.kx k12 fun h => h) (by omega) fun h13 l13 k13 => ⟨rfl, ?_⟩
    have F13 := (F11.non k12).kx k13 fun b hb hm' => nR b hm' hb.symm
    have lW13 := (lW11.kx k12 fun h => h).kx k13 (Ne.symm hRW)
    have Ta13 := (Ta.kx k12).kx k13
    refine x_expr (e_lmeth1 PySem.F.slot_list_extend PySem.F.type_list_extend (nm_L F13.ns (v := .ref h₂.objs.size) ((if_neg (by decide)).trans e2) ⟨_, _, rfl, lW13, ?_⟩))
    refine e_rev (e_tail (nm_L F13.ns (v := .ref a) (by simp) ⟨a, _, kvs, h13, _, rfl, rfl, Ta13, by omega, fun h14 c14 tk14 t14 n14 k14 => ⟨c14, kvs, h14, tk14, rfl, rfl, t14, by omega, fun h15 c15 tk15 t15 n15 k15 => ?_⟩⟩))
    refine call_extendT ((lW13.kx k14 fun h => h).kx k15 fun h => h) t15 (by simp at hwl ⊢; rw [List.length_append] at hul; omega) fun h16 l16 k16 => ⟨rfl, wpAny_execs_nil ⟨h16, _, (subsL (st' ++ t'.kids.reverse).reverse).length, rfl, ?_, ?_⟩⟩
    · rw [hst, List.reverse_append, List.reverse_reverse, subsL_append, List.length_append, List.length_append, subs_kids]; omega
    · have F16 := ((F13.non k14).non k15).kx k16 fun b hb hm' => nW b hm' hb.symm
      have m13 : Kx (fun b => F.own b ∨ b = h₁.objs.size ∨ b = h₂.objs.size) h11 h13 := k12.ofNon.trans (k13.mono fun b hb => .inr (.inl hb))
      have m16 : Kx (fun b => F.own b ∨ b = h₁.objs.size ∨ b = h₂.objs.size) h11 h16 := (m13.trans (k14.trans k15).ofNon).trans (k16.mono fun b hb => .inr (.inr hb))
      refine ⟨_, _, F16, (if_neg (by decide)).trans e1, (if_neg (by decide)).trans e2, us ++ [t'], _, st' ++ t'.kids.reverse, _, ((l13.kx k14 fun h => h).kx k15 fun h => h).kx k16 hRW, ?_, l16, ?_, ?_, rfl, kk11.more m16 n11⟩
      · refine Paired.app ((pr.kx m11).kx m16) (.cons ⟨_, _, _, rfl, (((l12.kx k13).kx k14).kx k15).kx k16⟩ .nil)
      · exact ((ist'.kx m11).kx m16).app (ik.kx m16).rev
      · rw [← hus, List.reverse_append, List.reverse_reverse, subsL_append]
        cases t' with
        | node op ks => rw [subs]; simp [Tree.kids]
end
end Mine

namespace Mine

section
variable {w : World} {A : Around} {s : Shared} {h : Heap} {tk : Nat} {h0 : Heap} {R : Result → Shared → Prop} {E : Value → Shared → Prop} {env : Env}

theorem notIn_strs {a : Addr} {xs : List Str} {vs : List Value} {x : Str} {t : Tok} {Q : Value → Shared → Prop} (T : Ls s.heap a vs) (hv : StrVals xs vs) (hQ : Q (.bool (!xs.any fun y => y == x)) s) :
    wpAny (model prg w) A (compareOp .NotIn (.str x t) (.ref a)) Q E s := by
  refine SeqAt.notIn_listAt (strEq x) T.isList (fun y hy => ?_) (by rw [List.any_toArray]; rw [any_strVals hv x]; exact hQ)
  obtain ⟨z, u, _, rfl⟩ := hv.mem y (by simpa using hy)
  exact (eqGives_str z x u t).at _ _
theorem any_eq_mem {xs : List Str} {x : Str} : (xs.any fun y => y == x) = decide (x ∈ xs) := by
  rw [Bool.eq_iff_iff]; simp
/-- two equal lists of texts -/
theorem eq_strs_same {a b : Addr} {xs : List Str} {vs us : List Value} {Q : Value → Shared → Prop} (hu : A.units < cLine) (T : Ls s.heap a vs) (T2 : Ls s.heap b us) (hv : StrVals xs vs) (hw : StrVals xs us) (hQ : Q (.bool true) s) :
    wpAny (model prg w) A (compareOp .Eq (.ref a) (.ref b)) Q E s := by
  have hl : vs.length = us.length := (Paired.length hv).symm.trans (Paired.length hw)
  refine SeqAt.eq_listAt (e := fun _ => true) T.isList T2.isList (by simpa using hl) hu (fun j h1 h2 => ?_) (by rw [List.all_eq_true.mpr fun _ _ => rfl]; exact hQ)
  have e1 : vs[j]? = some vs.toArray[j] := by rw [← List.getElem?_toArray, Array.getElem?_eq_getElem h1]
  have e2 : us[j]? = some us.toArray[j] := by rw [← List.getElem?_toArray, Array.getElem?_eq_getElem h2]
  obtain ⟨x, t, hx, ex⟩ := hv.at e1
  obtain ⟨y, t', hy, ey⟩ := hw.at e2
  rw [hx] at hy; cases hy
  rw [ex, ey]
  have := (eqGives_str x x t t').at A.in1 s
  rwa [show (x == x) = true from by simp] at this

theorem isVarT_rows {u : Tree} : isVarT u = (((u.kids.length : Int) == 0) && startsQ u.op) := by
  unfold isVarT
  congr 1
  rw [Bool.eq_iff_iff]; simp

theorem names_spec {a : Addr} {us : List Tree} {vs : List Value} {n : Nat} (r : Rm (n + 1) A) (B : Bs (kf w.params) h0 h) (T : Ls h a vs) (hr : RowsV h us vs) (hsz : us.length ≤ 60) (hops : ∀ u ∈ us, u.op.cps.size ≤ 1000)
    (hR : ∀ h' tk' D ws ss, h.get? D = none → Ls h' D ws → StrVals ss ws → ss.Perm (once (varsOf us)) → sortedS ss = true → Kx Non h h' → R (.ok (.ret (.ref D))) (Sh s h' tk')) :
    codeAny (model prg w) A (.call (.ref 254) ⟨[.ref a], []⟩) R (Sh s h tk) := by
  refine enter r B (by k_is) (by k_is) (binds := [(Str.ofString "rows", .ref a)]) rfl (by rfl) (fun L h₁ tk₁ hL r₁ B₁ k₁ hm F => ?_)
  have hL1 : ∀ b, F.own b → h.get? b = none := fun b hb => get_none_of_ge (hm b hb).1
  refine x_set (e_nil (s := s) fun h₂ l2 k₂ => st_L (F.non k₂) fun h₃ tk₃ F3 k₃ => ?_)
  have kk3 : Kx Non h h₃ := (k₁.trans k₂).more k₃ fun b hb => hL1 b (.inl hb)
  have hDn : h.get? h₁.objs.size = none := k₁.gone_ge (Nat.le_refl _)
  have nD : ∀ b, F.own b → h₁.objs.size ≠ b := fun b hb => Nat.ne_of_gt (F.lt hb)
  have l3 : Ls h₃ h₁.objs.size [] := l2.kx k₃ (nD _ (.inl rfl))
  have T3 : Ls h₃ a vs := T.kx kk3 fun h => h
  have haD : a ≠ h₁.objs.size := fun e => Nat.lt_irrefl _ (e ▸ (T.kx k₁ fun h => h).lt)
  have hao : ∀ b, F.own b → b ≠ a := fun b hb e => by
    have h1 := (hm b hb).1
    rw [e] at h1
    exact absurd T.lt (Nat.not_lt.mpr h1)
  have hlen : vs.length = us.length := (Paired.length hr).symm
  refine x_for (nm_L F3.ns (v := .ref a) rfl ?_)
  refine for_ls r₁.h T3 (.inr ⟨⟨_, _, _, rfl⟩, fun v hv => ?_⟩) (fun b => F.own b ∨ b = h₁.objs.size) (fun b hb => ?_)
    (fun i h' => ∃ m' cm', Fx _ m' cm' h' ∧ m' (Str.ofString "found") = some (.ref h₁.objs.size) ∧ ∃ fv, Ls h' h₁.objs.size fv ∧ StrVals (once (varsOf (us.take i))) fv ∧ RowsV h' us vs ∧ Kx Non h h')
    ⟨_, _, F3, rfl, [], l3, .nil, hr.kx kk3, kk3⟩ ?_ ?_ ?_
  · obtain ⟨i, hi⟩ := List.mem_iff_getElem?.mp hv
    obtain ⟨u, _, b, _, _, e, _⟩ := Paired.get' hr hi
    exact ⟨b, e⟩
  · rcases hb with hb | rfl
    · exact ⟨F3.lt hb, hao b hb⟩
    · exact ⟨l3.lt, haD.symm⟩
  · rintro i h8 h9 ⟨m', cm', F', e', fv, l, sv, rr, kk⟩ k
    have hlt : ∀ b, b < h₃.objs.size → b ≠ h₃.objs.size := fun b hb => Nat.ne_of_lt hb
    exact ⟨m', cm', F'.kx k fun b hb hm' => hlt b (F3.lt hm') hb, e', fv, l.kx k (hlt _ l3.lt), sv, rr.kx k, kk.more k fun b hb => hb ▸ kk3.gone_ge (Nat.le_refl _)⟩
  · rintro i v h8 tk8 hv ⟨m', cm', F', e', fv, l, sv, rr, kk⟩
    obtain ⟨u, hu, b, to, tm, rfl, tb⟩ := Paired.get' rr hv
    have hmem : u ∈ us := List.mem_of_getElem? hu
    refine as_T2 r₁.h tb fun h9 k9 => as_L (F'.non k9) fun h10 tk10 F10 k10 => as_L F10 fun h11 tk11 F11 k11 => ?_
    have m11 : Kx (fun b => F.own b ∨ b = h₁.objs.size) h8 h11 := (k9.ofNon.trans (k10.mono fun b hb => .inl (.inl hb))).trans (k11.mono fun b hb => .inl (.inl hb))
    have n11 : ∀ b, (F.own b ∨ b = h₁.objs.size) → h.get? b = none := fun b hb => hb.elim (hL1 b) fun e => e ▸ hDn
    have l11 : Ls h11 h₁.objs.size fv := ((l.kx k9 fun h => h).kx k10 (nD _ (.inl rfl))).kx k11 (nD _ (.inl rfl))
    have htake : us.take (i + 1) = us.take i ++ [u] := by rw [List.take_add_one, hu]; rfl
    have ho := hops u hmem
    have hfl : fv.length ≤ 60 := by
      rw [← Paired.length sv]
      have h1 := once_len (varsOf (us.take i))
      have h2 : (varsOf (us.take i)).length ≤ (us.take i).length := by unfold varsOf; rw [List.length_map]; exact List.length_filter_le _ _
      have h3 : (us.take i).length ≤ us.length := List.length_take_le' _ _
      omega
    -- a row that changes nothing
    have keep : ∀ h12 tk12, Kx Non h11 h12 → once (varsOf (us.take (i + 1))) = once (varsOf (us.take i)) → ∃ h' tk', Sh s h12 tk12 = Sh s h' tk' ∧ Kx (fun b => F.own b ∨ b = h₁.objs.size) h8 h' ∧
        ∃ m' cm', Fx _ m' cm' h' ∧ m' (Str.ofString "found") = some (.ref h₁.objs.size) ∧ ∃ fv, Ls h' h₁.objs.size fv ∧ StrVals (once (varsOf (us.take (i + 1)))) fv ∧ RowsV h' us vs ∧ Kx Non h h' := fun h12 tk12 k12 e =>
      ⟨h12, tk12, rfl, m11.trans k12.ofNon, _, _, F11.non k12, (if_neg (by decide)).trans ((if_neg (by decide)).trans e'), fv, l11.kx k12 fun h => h, e ▸ sv, (rr.kx m11).kx k12, (kk.more m11 n11).trans k12⟩
    refine x_if (wpAny_isTrue_BoolOp (wpAny_allTrue_And_cons (wpAny_isTrue_Compare1 (nm_L F11.ns (v := .int (u.kids.length : Int) tm) (by simp) (e_int fun t12 tk12 => eq_int (wpAny_truthy_bool ?_))))))
    have hsn : varsOf (us.take (i + 1)) = varsOf (us.take i) ++ (if isVarT u then [u.op] else []) := by rw [htake, varsOf_snoc]
    cases hz : ((u.kids.length : Int) == 0) with
    | false =>
      have hv0 : isVarT u = false := by rw [isVarT_rows, hz]; rfl
      simp only [Bool.false_eq_true, if_false]
      exact wpAny_execs_nil (wpAny_execs_nil (keep _ _ (Kx.refl _ _) (by rw [hsn, hv0]; simp)))
    | true =>
      simp only [if_true]
      refine wpAny_allTrue_And_cons (wpAny_isTrue_Compare1 (e_cut1 (nm_L F11.ns (v := .str u.op to) ((if_neg (by decide)).trans (if_pos rfl)) ⟨u.op, to, h11, _, rfl, rfl, by show u.op.cps.size ≤ _; omega, fun h12 t12' tk13 k12 => e_str fun t13 tk14 => eq_str (wpAny_truthy_bool ?_)⟩)))
      have F12 := F11.non k12
      show if startsQ u.op = true then _ else _
      cases hq : startsQ u.op with
      | false =>
        have hv0 : isVarT u = false := by rw [isVarT_rows, hz, hq]; rfl
        simp only [Bool.false_eq_true, if_false]
        exact wpAny_execs_nil (wpAny_execs_nil (keep _ _ k12 (by rw [hsn, hv0]; simp)))
      | true =>
        have hv1 : isVarT u = true := by rw [isVarT_rows, hz, hq]; rfl
        rw [hv1, if_pos rfl] at hsn
        simp only [if_true]
        refine wpAny_allTrue_And_cons (wpAny_isTrue_Compare1 (nm_L F12.ns (v := .str u.op to) ((if_neg (by decide)).trans (if_pos rfl)) (nm_L F12.ns (v := .ref h₁.objs.size) ((if_neg (by decide)).trans ((if_neg (by decide)).trans e')) (notIn_strs (l11.kx k12 fun h => h) sv (wpAny_truthy_bool ?_)))))
        rw [any_eq_mem]
        by_cases hin : u.op ∈ once (varsOf (us.take i))
        · simp only [hin, decide_true, Bool.not_true, Bool.false_eq_true, if_false]
          exact wpAny_execs_nil (wpAny_execs_nil (keep _ _ k12 (by rw [hsn, once_snoc]; unfold onceStep; rw [if_pos hin])))
        · simp only [hin, decide_false, Bool.not_false, if_true]
          refine wpAny_allTrue_And_nil ?_
          simp only [if_true]
          refine x_expr (e_lmeth1 PySem.F.slot_list_append PySem.F.type_list_append (nm_L F12.ns (v := .ref h₁.objs.size) ((if_neg (by decide)).trans ((if_neg (by decide)).trans e')) ⟨_, _, rfl, l11.kx k12 (fun h => h), nm_L F12.ns (v := .str u.op to) ((if_neg (by decide)).trans (if_pos rfl)) (call_append (l11.kx k12 fun h => h) (by omega) fun h13 l13 k13 => ⟨rfl, wpAny_execs_nil (wpAny_execs_nil ?_)⟩)⟩))
          have m13 : Kx (fun b => F.own b ∨ b = h₁.objs.size) h11 h13 := k12.ofNon.trans (k13.mono fun b hb => .inr hb)
          refine ⟨h13, _, rfl, m11.trans m13, _, _, F12.kx k13 (fun b hb hm' => nD b hm' hb.symm), (if_neg (by decide)).trans ((if_neg (by decide)).trans e'), _, l13, ?_, (rr.kx m11).kx m13, (kk.more m11 n11).more m13 n11⟩
          rw [hsn, once_snoc]
          unfold onceStep
          rw [if_neg hin]
          exact Paired.app sv (.cons ⟨to, rfl⟩ .nil)
  · rintro h' tk' ⟨m', cm', F', e', fv, l, sv, rr, kk⟩
    rw [hlen, List.take_length] at sv
    refine x_ret (Call_ (nm_B (kk.bs B) g_sorted b_sorted (callWith_builtin1 (ar_cons (nm_L F'.ns e' (ar_nil (call_sorted_ls l sv ?_ fun h9 D ws ss l9 sv9 hp hs hD k9 => ?_)))))))
    · have h1 := once_len (varsOf us)
      have h2 : (varsOf us).length ≤ us.length := by unfold varsOf; rw [List.length_map]; exact List.length_filter_le _ _
      omega
    · exact hR h9 _ D ws ss (kk.gone hD) l9 sv9 hp hs (kk.trans k9)
end
end Mine

namespace Mine

theorem size_at_67 {w : World} : ∃ o, (kf w.params).lookup 67 = some o := ⟨⟨_, _, .func (fnOf _ _ _ _ _ _ _ _ _ _ _ _), _⟩, by k_is⟩
theorem Bs.big {w : World} {h0 h : Heap} (B : Bs (kf w.params) h0 h) : 67 < h.objs.size := by
  obtain ⟨o, e⟩ := size_at_67 (w := w)
  exact Heap.lt_size (B.inK _ _ e)
theorem Bs.notSys {w : World} {h0 h : Heap} (B : Bs (kf w.params) h0 h) {a : Addr} (ha : h.objs.size ≤ a) : (a == sysModules) = false := by
  have h1 := B.big
  have h2 : a ≠ (1 : Nat) := fun e => by
    have h3 : (67 : Nat) < a := Nat.lt_of_lt_of_le h1 ha
    rw [e] at h3; exact absurd h3 (by decide)
  exact beq_eq_false_iff_ne.mpr h2

section
variable {prog : Program} {w : World} {A : Around} {s : Shared} {h : Heap} {tk : Nat} {E : Value → Shared → Prop} {env : Env}

/-- a method of a dict's, of two arguments -/
theorem e_dmeth2 {K : Type} [DecidableEq K] {knd : KeyKind prog w K} {o e1 e2 : Expr} {name : Str} {apos pos : Pos} {id : String} {Q : Value → Shared → Prop} {st : Shared} (slot : Slot "dict" name id) (hty : typeOf (.builtin id) = pure (.type "method_descriptor"))
    (hh : wpAny (model prog w) A (eval o env) (fun ov s₁ => ∃ a kvs, ov = .ref a ∧ s₁.heap.DictOf knd a kvs ∧ wpAny (model prog w) A (eval e1 env) (fun v1 s₂ => wpAny (model prog w) A (eval e2 env) (fun v2 s₃ => wpAny (model prog w) A (call (.builtin id) [.ref a, v1, v2]) Q E s₃) E s₂) E s₁) E st)
    (hbase : attributeBase o name env (eval o env) = eval o env := by rfl) (he : starEach [e1, e2] env = [(false, eval e1 env), (false, eval e2 env)] := by rfl) (he2 : starEach [e2] env = [(false, eval e2 env)] := by rfl)
    (hline : (apos.endLine == pos.line) = true := by rfl) :
    wpAny (model prog w) A (eval (.Call (.Attribute o name apos) [e1, e2] [] pos) env) Q E st := by
  refine wpAny_Call_method hbase (by rw [he]; rfl) hline F.plainAttrs_dict slot hty (wpAny_mono hh (fun ov s₁ ⟨a, kvs, e, T, x⟩ => ?_) fun _ _ z => z)
  subst e
  refine ⟨T.typeIs, T.mapOf.noDict, callWith_method1 (ar_cons (wpAny_mono x (fun v1 s₂ y => ar_cons (wpAny_mono y (fun v2 s₃ z => ar_nil z) fun _ _ z => z) (by rw [he2]; rfl)) fun _ _ z => z) (by rw [he, he2])) (by rw [he, he2]) (by rw [he2]; rfl)⟩
end

/-- a text's value in a table of texts -/
def lk (kvs : List (Str × Value)) (x : Str) : Str := match valueAt kvs x with | some (.str y _) => y | _ => x
def StrKv (kvs : List (Str × Value)) : Prop := ∀ p ∈ kvs, ∃ y t, p.2 = .str y t ∧ y.cps.size ≤ 1000
theorem StrKv.at {kvs : List (Str × Value)} (hk : StrKv kvs) {x : Str} {v : Value} (e : valueAt kvs x = some v) : ∃ t, v = .str (lk kvs x) t ∧ (lk kvs x).cps.size ≤ 1000 := by
  unfold lk
  rw [e]
  unfold valueAt at e
  cases hf : kvs.find? (fun kv => kv.1 = x) with
  | none => rw [hf] at e; cases e
  | some p =>
    rw [hf] at e; cases e
    obtain ⟨y, t, e', hy⟩ := hk p (List.mem_of_find?_eq_some hf)
    simp only [e']
    exact ⟨t, rfl, hy⟩
theorem StrKv.getD {kvs : List (Str × Value)} (hk : StrKv kvs) (x : Str) (t : Tok) : ∃ t', (valueAt kvs x).getD (.str x t) = .str (lk kvs x) t' := by
  cases e : valueAt kvs x with
  | none => exact ⟨t, by unfold lk; rw [e]; rfl⟩
  | some v => obtain ⟨t', e', _⟩ := hk.at e; exact ⟨t', e'⟩
theorem StrKv.size {kvs : List (Str × Value)} (hk : StrKv kvs) {x : Str} (hx : x.cps.size ≤ 1000) : (lk kvs x).cps.size ≤ 1000 := by
  cases e : valueAt kvs x with
  | none => unfold lk; rw [e]; exact hx
  | some v => obtain ⟨t', _, h⟩ := hk.at e; exact h

mutual
def rename (f : Str → Str) : Tree → Tree
  | .node op ks => .node (f op) (renameL f ks)
def renameL (f : Str → Str) : List Tree → List Tree
  | [] => []
  | t :: ts => rename f t :: renameL f ts
end
theorem renameL_map (f : Str → Str) : ∀ ts : List Tree, renameL f ts = ts.map (rename f)
  | [] => rfl
  | t :: ts => by rw [renameL, renameL_map f ts]; rfl

section
variable {w : World} {A : Around} {s : Shared} {h : Heap} {tk : Nat} {h0 : Heap} {R : Result → Shared → Prop} {E : Value → Shared → Prop} {env : Env}

theorem g_flat : nsIn (kf w.params) mainGlobals (Str.ofString "_law_flat") = some (some (.ref 247)) := by k_is
theorem k_flat : keepIn (kf w.params) (.ref 247) = true := by k_is
theorem g_names : nsIn (kf w.params) mainGlobals (Str.ofString "_law_names") = some (some (.ref 254)) := by k_is
theorem k_names : keepIn (kf w.params) (.ref 254) = true := by k_is
theorem g_ground : nsIn (kf w.params) mainGlobals (Str.ofString "is_ground") = some (some (.ref 86)) := by k_is
theorem k_ground : keepIn (kf w.params) (.ref 86) = true := by k_is

theorem once_isEmpty (xs : List Str) : (once xs).isEmpty = xs.isEmpty := by
  cases xs with
  | nil => rfl
  | cons x l =>
    have : x ∈ once (x :: l) := (mem_once _ _).mpr List.mem_cons_self
    cases ho : once (x :: l) with
    | nil => rw [ho] at this; cases this
    | cons _ _ => rfl

theorem named_right_spec {t : Tree} {v : Value} (r : Rm (ht t + 4) A) (B : Bs (kf w.params) h0 h) (hT : IsT h t v) (hsz : (subs t).length ≤ 60) (hht : ht t ≤ 100) (hops : OpsOk t)
    (hR : ∀ d h' tk', Kx Non h h' → R (.ok (.ret (.bool true))) (Sh { s with drawn := d } h' tk')) :
    codeAny (model prg w) A (.call (.ref 273) ⟨[v], []⟩) R (Sh s h tk) := by
  refine enter r B (by k_is) (by k_is) (binds := [(Str.ofString "t", v)]) rfl (by rfl) (fun L h₁ tk₁ hL r₁ B₁ k₁ hm F => ?_)
  have hL1 : ∀ b, F.own b → h.get? b = none := fun b hb => get_none_of_ge (hm b hb).1
  refine x_set (Call_ (nm_K B₁ g_names (cw_K (K := kf w.params) (h0 := h0) k_names (ar_cons (Call_ (nm_K B₁ g_flat (cw_K k_flat (ar_cons (nm_L F.ns (v := v) rfl (ar_nil ⟨B₁, wpAny_call ?_⟩))))))))))
  refine flat_spec (n := ht t) (r₁.le (by omega)) B₁ (hT.kx k₁) (by omega) fun h₂ tk₂ D vs hD l2 rv k₂ => ?_
  have B₂ := k₂.bs B₁
  refine ar_nil ⟨B₂, wpAny_call (names_spec (n := ht t) (r₁.le (by omega)) B₂ l2 rv hsz (fun u hu => hops u hu) fun h₃ tk₃ D3 ws ss hD3 l3 sv hp hs k₃ => ?_)⟩
  have F3 := (F.non k₂).non k₃
  refine st_L F3 fun h₄ tk₄ F4 k₄ => ?_
  have kk3 := (k₁.trans k₂).trans k₃
  have kk4 := kk3.more k₄ fun b hb => hL1 b (.inl hb)
  have B₄ := kk4.bs B
  have nD : ∀ b, F.own b → D3 ≠ b := fun b hb e => by
    obtain ⟨o, ho⟩ := (F.non k₂).live hb
    rw [← e, hD3] at ho; cases ho
  have l4 : Ls h₄ D3 ws := l3.kx k₄ (nD _ (.inl rfl))
  refine x_ret (wpAny_And2 (wpAny_Compare1 (Call_ (nm_K B₄ g_vars (cw_K k_vars (ar_cons (nm_L F4.ns (v := v) rfl (ar_nil ⟨B₄, wpAny_call ?_⟩))))))))
  refine variables_spec (r₁.le (by omega)) B₄ (hT.kx kk4) hsz hht hops fun d h₅ tk₅ D5 vs5 ss5 hD5 l5 sv5 hp5 hs5 k₅ => ?_
  have he : ss5 = ss := sortedS_unique (hp5.trans hp.symm) hs5 hs
  subst he
  refine nm_L (s := { s with drawn := d }) (F4.non k₅).ns (v := .ref D3) rfl (eq_strs_same r₁.units l5 (l4.kx k₅ fun h => h) sv5 sv (wpAny_truthy_bool ?_))
  rw [if_pos rfl]
  have B₅ := k₅.bs B₄
  refine wpAny_Compare1 (Call_ (nm_K (s := { s with drawn := d }) B₅ g_ground (cw_K k_ground (ar_cons (nm_L (F4.non k₅).ns (v := v) rfl (ar_nil ⟨B₅, wpAny_call ?_⟩))))))
  refine is_ground_spec r₁ B₅ ((hT.kx kk4).kx k₅) hsz hht hops fun d' h₆ tk₆ k₆ => ?_
  refine wpAny_Compare1 (nm_L (s := { s with drawn := d' }) ((F4.non k₅).non k₆).ns (v := .ref D3) rfl (e_nil (s := { s with drawn := d' }) fun h₇ l7 k₇ => eq_ls_nil r₁.units (((l4.kx k₅ fun h => h).kx k₆ fun h => h).kx k₇ fun h => h) l7 ?_))
  have e : ws.isEmpty = (varOps t).isEmpty := by
    have h1 : ws.isEmpty = ss5.isEmpty := isEmpty_of_len (Paired.length sv).symm
    have h2 : ss5.isEmpty = (once (varsOf (subs t))).isEmpty := isEmpty_of_len hp.length_eq
    rw [h1, h2, once_isEmpty]; rfl
  rw [e]
  refine wpAny_is_plain (by cases (varOps t).isEmpty <;> rfl) ?_
  have : (Value.bool (varOps t).isEmpty == Value.bool (varOps t).isEmpty) = true := by simp
  rw [this]
  exact hR d' h₇ tk₆ (((kk4.trans k₅).trans k₆).trans k₇)

theorem g_tuple : nsIn (kf w.params) mainGlobals (Str.ofString "tuple") = some none := by k_is
theorem b_tuple : bootBuiltins (Str.ofString "tuple") = some (.type "tuple") := by boot_by_name
theorem g_renamed : nsIn (kf w.params) mainGlobals (Str.ofString "renamed") = some (some (.ref 96)) := by k_is
theorem k_renamed : keepIn (kf w.params) (.ref 96) = true := by k_is

abbrev RenamedSpec (w : World) (h0 : Heap) (t : Tree) : Prop := ∀ {A : Around} {s : Shared} {h : Heap} {tk : Nat} {R : Result → Shared → Prop} {v : Value} {d : Addr} {kvs : List (Str × Value)}, Rm (ht t + 1) A → Bs (kf w.params) h0 h → IsT h t v →
    (subs t).length ≤ 1000 → h.DictOf (strKind prg w) d kvs → (d == sysModules) = false → StrKv kvs →
    (∀ h' tk' v', IsT h' (rename (lk kvs) t) v' → Kx Non h h' → R (.ok (.ret v')) (Sh s h' tk')) →
    codeAny (model prg w) A (.call (.ref 96) ⟨[v, .ref d], []⟩) R (Sh s h tk)

theorem renamed_spec {w : World} {h0 : Heap} : ∀ t, RenamedSpec w h0 t := by
  refine tree_ind fun op ks ih => ?_
  intro A s h tk R v d kvs r B hT hsz hD hds hkv hR
  rw [ht] at r
  obtain ⟨a, to, kv, rfl, Ta0, ik⟩ := hT.open
  refine enter r B (by k_is) (by k_is) (binds := [(Str.ofString "t", .ref a), (Str.ofString "table", .ref d)]) rfl (by rfl) (fun L h₁ tk₁ hL r₁ B₁ k₁ hm F => ?_)
  have hszL : (subs (.node op ks)).length = (subsL ks).length + 1 := by rw [subs]; rfl
  have hkl : kv.length ≤ 1000 := by
    have := ik.length
    have h1 := len_le_subsL ks
    show kv.length ≤ 1000
    rw [this]; show ks.length ≤ 1000; omega
  have D₁ : h₁.DictOf (strKind prg w) d kvs := hD.keep k₁.all
  have cT : h₁.IsCell (L + 1) (some (.ref d)) := F.cell (Str.ofString "table") (L + 1) (by rfl)
  have Ta1 := Ta0.kx k₁
  refine x_ret (wpAny_BinOp (e_tuple (s := s) (ar_cons (e_dmeth2 (knd := strKind prg w) PySem.F.slot_dict_get PySem.F.type_dict_get (nm_C cT ⟨d, kvs, rfl, D₁, ?_⟩)))))
  refine Subscript_ (nm_L F.ns (v := .ref a) rfl (e_int fun t2 tk2 => sub_tp Ta1 (by decide) (by decide) (x := .str op to) rfl ?_))
  refine Subscript_ (nm_L F.ns (v := .ref a) rfl (e_int fun t3 tk3 => sub_tp Ta1 (by decide) (by decide) (x := .str op to) rfl ?_))
  refine (call_meetsIn PySem.F.slot_dict_get D₁.typeIs PySem.F.entry_dict_get (PySem.F.args_dict_get_3 _ _ _) (meets_dict_get_default (strKind prg w) d (strKind_is _ _ op to) hds (.str op to)) ⟨_, D₁.mapOf, ?_⟩)
  obtain ⟨t4, e4⟩ := hkv.getD op to
  rw [e4]
  refine ar_nil ⟨h₁, _, rfl, by simp, fun h₂ t2 k₂ => ?_⟩
  have B₂ := k₂.bs B₁
  have F2 := F.non k₂
  have cT2 := Cell.kx cT k₂ fun h => h
  have D₂ := D₁.keep k₂.all
  have kk2 := k₁.trans k₂
  refine Call_ (nm_B B₂ g_tuple b_tuple (callWith_type1 (ar_cons (comp_W (s := s) (cl := [(Str.ofString "table", L + 1)]) rfl (by decide) (by decide) (e_tail (nm_L F2.ns (v := .ref a) rfl ⟨a, _, kv, h₂, _, rfl, rfl, Ta1.kx k₂, by omega, fun h₃ c tk₃ tc hc k₃ => ?_⟩))))))
  have B₃ := k₃.bs B₂
  have kk3 := kk2.trans k₃
  have cT3 := Cell.kx cT2 k₃ fun h => h
  refine ca_tp r₁.h tc (by omega) Non (fun b hb => hb.elim) (fun i ys h' => Bs (kf w.params) h0 h' ∧ h'.IsCell (L + 1) (some (.ref d)) ∧ h'.DictOf (strKind prg w) d kvs ∧ IsTs h' ks kv ∧ IsTs h' ((ks.take i).map (rename (lk kvs))) ys)
    ⟨B₃, cT3, D₂.keep k₃.all, ik.kx kk3, by show IsTs h₃ [] []; rw [IsTs]⟩ (fun i ys h' h'' ⟨q1, q2, q3, q4, q5⟩ k => ?_) (fun i u ys h4 tk4 m4 hu ⟨q1, q2, q3, q4, q5⟩ n4 e4 => ?_) (fun ys h4 tk4 D4 hD4 ⟨q1, q2, q3, q4, q5⟩ l4 k4 => ?_)
  · have hc1 : L + 1 < h₃.objs.size := cT3.lt
    have hd1 : d < h₃.objs.size := by obtain ⟨o, es, ep, ho, _⟩ := D₂.keep k₃.all; exact Heap.lt_size ho
    refine ⟨q1.kx k fun b hb => B₃.off_new hb.1, Cell.kx q2 k fun hb => absurd hc1 (Nat.not_lt.mpr hb.1), ?_, q4.kx k, q5.kx k⟩
    obtain ⟨o, es, ep, ho, r⟩ := q3
    exact ⟨o, es, ep, k.k d o (fun hb => absurd hd1 (Nat.not_lt.mpr hb.1)) ho, r⟩
  · obtain ⟨t', ht', it'⟩ := q4.get hu
    have hmem : t' ∈ ks := List.mem_of_getElem? ht'
    refine wpAny_tests_nil ?_
    rw [if_pos rfl]
    have hs' := subs_le_of_mem hmem
    refine Call_ (nm_K q1 g_renamed (cw_K (K := kf w.params) (h0 := h0) k_renamed (ar_cons (nm_L n4 e4 (ar_cons (nm_C q2 (ar_nil ⟨q1, wpAny_call ?_⟩)))))))
    refine ih t' hmem (r₁.le (Nat.succ_le_succ (ht_le_of_mem hmem))) q1 it' (by omega) q3 hds hkv fun h5 tk5 v5 i5 k5 => ?_
    refine ⟨h5, tk5, rfl, k5, k5.bs q1, Cell.kx q2 k5 fun h => h, q3.keep k5.all, q4.kx k5, ?_⟩
    rw [List.take_add_one, ht', Option.toList_some, List.map_append]
    exact (q5.kx k5).snoc i5
  · have hyl : ys.length = kv.length := by
      rw [q5.length, List.length_map, List.length_take, ik.length]
      exact Nat.min_eq_right (Nat.le_refl _)
    rw [ik.length] at q5
    have hks : ks.take (Tree.kids (.node op ks)).length = ks := List.take_length
    rw [hks] at q5
    refine ar_nil (call_tuple l4 (by omega) fun h5 c5 t5 hc5 k5 => ?_)
    have k25 := (k₃.trans k4).trans k5
    refine add_tp (t2.kx k25) t5 (by simp; omega) fun h6 c6 t6 k6 => ?_
    refine hR h6 _ _ ?_ (((kk3.trans k4).trans k5).trans k6)
    rw [rename, renameL_map, IsT]
    exact ⟨c6, t4, ys, rfl, t6, (q5.kx k5).kx k6⟩
end
end Mine

namespace Mine

section
variable {prog : Program} {w : World} {A : Around} {s : Shared} {h : Heap} {tk : Nat} {E : Value → Shared → Prop} {env : Env}

theorem draw_list {it t : Addr} {items : Array Value} (hne : t ≠ it) : ∀ (n i : Nat) (s : Shared) (Q : List Value → Shared → Prop), s.heap.IsListIter it t i → s.heap.IsList t items → i + n ≤ items.size →
    (∀ h', h'.IsListIter it t (i + n) → Heap.SameBut it s.heap h' → Q ((items.toList.drop i).take n) { s with heap := h' }) → wpAny (model prog w) A (draw (.ref it) n) Q E s
  | 0, i, s, Q, hit, _, _, hQ => by
    show wpAny _ _ (pure []) Q E s
    exact wpAny_pure (by simpa using hQ s.heap hit (Heap.SameBut.refl ..))
  | n + 1, i, s, Q, hit, ht, hle, hQ => by
    have hlt : i < items.size := by omega
    show wpAny _ _ (pyNext (.ref it) >>= _) Q E s
    refine wpAny_bind (wpAny_pyNext_list_item hit ht (x := items[i]) (by simp [hlt]) fun h₁ hit₁ hs₁ => ?_)
    refine wpAny_bind (wpAny_holding (draw_list hne n (i + 1) _ _ hit₁ (ht.extBut hs₁.extBut hne) (by omega) fun h₂ hit₂ hs₂ => wpAny_pure ?_))
    have hd : items.toList.drop i = items[i] :: items.toList.drop (i + 1) := by simp [List.drop_eq_getElem_cons, hlt]
    have := hQ h₂ (by rw [show i + (n + 1) = i + 1 + n by omega]; exact hit₂) (hs₁.trans hs₂)
    rw [hd, List.take_succ_cons] at this
    exact this
theorem unpackItems_list {t : Addr} {items : Array Value} {Q : List Value → Shared → Prop} (hh : A.handled = none) (ht : s.heap.IsList t items)
    (hQ : ∀ h', Heap.ExtBut s.heap.objs.size s.heap h' → Q items.toList { s with heap := h' }) : wpAny (model prog w) A (unpackItems (.ref t) items.size none) Q E s := by
  have hlt : t ≠ s.heap.objs.size := by obtain ⟨o, ho, _⟩ := ht; exact Nat.ne_of_lt (Heap.lt_size ho)
  unfold unpackItems
  refine wpAny_bind ?_
  · unfold notIterableAtAll
    refine wpAny_bind (wpAny_specialOf ht.typeIs slot_list_iter.lookup ?_)
    refine wpAny_pure ?_
    simp only [Bool.false_eq_true, if_false]
    refine wpAny_bind (wpAny_holding (wpAny_pyIter_list ht ?_))
    refine wpAny_bind (wpAny_holding (draw_list hlt items.size 0 _ _ ⟨_, Heap.get?_push_size _ rfl, rfl, rfl⟩ (ht.push _) (by omega) fun h₁ hit₁ hs₁ => ?_))
    have hall : List.take items.size (List.drop 0 items.toList) = items.toList := by
      rw [List.drop_zero]; exact List.take_of_length_le (by simp)
    rw [hall]
    rw [if_neg (by simp)]
    have ht₁ : h₁.IsList t items := (ht.push _).extBut hs₁.extBut hlt
    refine wpAny_bind (wpAny_holding (wpAny_pyNext_list_end hh hit₁ ht₁ (by simp) fun h₂ he₂ => ?_))
    simp only [Option.isSome_none, Bool.false_eq_true, if_false]
    refine wpAny_pure (hQ h₂ fun b o hb e => he₂ b o hb (hs₁.extBut b o hb (Heap.get?_push_of_some _ e)))

theorem as_L2 {e1 e2 : Expr} {k : Nat} {p : Pos} {a : Addr} {u v : Value} {Q : Unit → Shared → Prop} (hh : A.handled = none) (T : Ls h a [u, v])
    (hQ : ∀ h', Kx Non h h' → wpAny (model prog w) A (assign e1 env u) (fun _ s₁ => wpAny (model prog w) A (assign e2 env v) Q E s₁) E (Sh s h' tk))
    (he : assignEach [e1, e2] env = [(false, assign e1 env), (false, assign e2 env)] := by rfl) : wpAny (model prog w) A (assign (.Tuple [e1, e2] k p) env (.ref a)) Q E (Sh s h tk) := by
  rw [arm_assign_Tuple]
  refine wpAny_bind (wpAny_standAt ?_)
  unfold unpack
  rw [he]
  refine wpAny_bind (wpAny_holding (unpackItems_list (s := Sh s h tk) (items := [u, v].toArray) hh T.isList fun h' hx => ?_))
  have k' : Kx Non h h' := .ofAll fun b o e => hx b o (Nat.ne_of_lt (Heap.lt_size e)) e
  refine wpAny_assignInOrder_more (wpAny_mono (hQ h' k') (fun _ s₁ x => ?_) fun _ _ z => z)
  exact wpAny_assignInOrder_more (wpAny_mono x (fun _ s₂ y => wpAny_assignInOrder_none y) fun _ _ z => z)

/-- xs[k] = v at a known place -/
theorem set_ls {a : Addr} {vs : List Value} {k : Int} {t : Tok} {v : Value} {Q : Unit → Shared → Prop} (T : Ls h a vs) (h0 : 0 ≤ k) (hk : k < vs.length) (hz : vs.length ≤ 100000)
    (hQ : ∀ h', Ls h' a (vs.set k.toNat v) → Kx (· = a) h h' → Q () (Sh s h' tk)) : wpAny (model prog w) A (setItem (.ref a) (.int k t) v) Q E (Sh s h tk) := by
  have hl := T.isList
  have ⟨l, kx⟩ := T.upd (us := vs.set k.toNat v) (f := fun xs => xs.setIfInBounds k.toNat v) (by simp)
  obtain ⟨o, ho, hc, ne, hd⟩ := id hl
  unfold setItem
  try with_reducible refine wpAny_holding ?_
  first | refine wpAny_bind (wpAny_pure ?_) | skip
  refine wpAny_bind (wpAny_sequenceKey (s := Sh s h tk) hl.typeIs (by decide) ?_)
  refine wpAny_bind (wpAny_callSpecial?_slot (s := Sh s h tk) (name := Str.ofString "__setitem__") hl.typeIs slot_list_setitem
    (wpAny_call_entry (s := Sh s h tk) slot_list_setitem hl.typeIs entry_list_setitem ?_ (args_list_setitem _ _ _)))
  show wpAny _ _ (Builtin.List.listSubscript? (.int k t) >>= _) _ _ _
  refine wpAny_bind (wpAny_listSubscript_int (fitsIndex_of h0 (by omega)) ?_)
  obtain ⟨j, rfl⟩ := Int.eq_ofNat_of_zero_le h0
  have hj : j < vs.toArray.size := by simp; omega
  have hx' : vs.toArray[j]? = some vs.toArray[j] := Array.getElem?_eq_getElem hj
  show wpAny _ _ ((seqItemAt a j >>= fun r => pure (r.map (j, ·))) >>= _) _ _ _
  refine wpAny_bind (wpAny_bind (wpAny_seqItemAt ho hd (wpAny_pure ?_)))
  rw [hx']
  show wpAny _ _ (setSeqItemAt a j v >>= _) _ _ _
  refine wpAny_bind (wpAny_setSeqItemAt ho hd ?_)
  first
    | exact wpAny_bind (wpAny_pure (wpAny_pure ⟨.none, rfl, wpAny_pure (hQ _ l kx)⟩))
    | exact wpAny_pure ⟨.none, rfl, wpAny_pure (hQ _ l kx)⟩

/-- xs[:k] of a list -/
theorem e_upto {value : Expr} {i : Int} {p1 p2 p3 : Pos} {k : Nat} {Q : Value → Shared → Prop} {st : Shared}
    (hh : wpAny (model prog w) A (eval value env) (fun v s₁ => ∃ a vs h₁ tk₁, v = .ref a ∧ s₁ = Sh s h₁ tk₁ ∧ Ls h₁ a vs ∧ vs.length ≤ 99999 ∧ ∀ h' c us tk', Ls h' c us → us.length ≤ vs.length → (∀ u ∈ us, u ∈ vs) → h₁.get? c = none → Kx Non h₁ h' → Q (.ref c) (Sh s h' tk')) E st)
    (hs : ∀ (a : Addr) i', subscripted (.Slice none (some (.Constant (.int i) k p1)) none p2) false (.ref a) i' = operate [i', .ref a] (getItem (.ref a) i') := by intro _ _; with_unfolding_all rfl)
    (ht : ∀ (a : Addr) r, letTemporaryGo value (.ref a) r = pure () := by intro _ _; with_unfolding_all rfl) :
    wpAny (model prog w) A (eval (.Subscript value (.Slice none (some (.Constant (.int i) k p1)) none p2) p3) env) Q E st := by
  refine Subscript_ (wpAny_mono hh (fun v s₁ ⟨a, vs, h₁, tk₁, e1, e2, T, hsz, hQ⟩ => ?_) fun _ _ z => z)
  subst e1 e2
  refine wpAny_Slice (wpAny_evalPart_none (wpAny_evalPart_some (e_int fun t1 tk1 => wpAny_evalPart_none ?_)))
  refine slice_listK (s := Sh s h₁ tk1) T.isList .none (.int i t1) ?_ (hs _ _) (ht _) (by rw [sizeLine_eq]; simp; omega)
  refine hQ _ _ (slicePick vs.toArray none (some i) none).toList _ ⟨0, ?_⟩ ?_ ?_ (get_none_of_ge (Nat.le_succ _)) ((Kx.push _ _).trans (Kx.push _ _))
  · have := Heap.get?_push_size (h₁.push { cls := .type "slice", data := .fields #[.none, .int i t1, .none] }) (o := { cls := .type "list", data := .seq (slicePick vs.toArray none (some i) none) }) rfl
    rw [Heap.size_push] at this
    exact this
  · rw [Array.length_toList]
    have := slicePick_size_le vs.toArray none (some i) none
    simpa using this
  · intro u hu
    unfold slicePick at hu
    rw [List.toList_toArray] at hu
    obtain ⟨j, _, hj⟩ := List.mem_filterMap.mp hu
    have := Array.mem_of_getElem? hj
    simpa using this
end
end Mine

namespace Mine

def AllInt (vs : List Value) : Prop := ∀ v ∈ vs, ∃ n t, v = .int n t
/-- the feed: its cells, its place -/
structure FeedAt (h : Heap) (f C : Addr) (p : Nat) : Prop where
  f : ∃ t, Ls h f [.ref C, .int (p : Int) t]
  c : ∃ cvs, Ls h C cvs ∧ AllInt cvs ∧ cvs.length ≤ 63
theorem FeedAt.ne {h : Heap} {f C : Addr} {p : Nat} (x : FeedAt h f C p) : C ≠ f := by
  rintro rfl
  obtain ⟨t, n, e⟩ := x.f
  obtain ⟨cvs, ⟨m, e'⟩, ha, _⟩ := x.c
  rw [e] at e'; injection e' with e'; injection e' with _ _ e' _; injection e' with e' _
  have : cvs = [.ref C, .int (p : Int) t] := by have := congrArg Array.toList e'; simpa using this.symm
  obtain ⟨n, u, e2⟩ := ha (.ref C) (by rw [this]; exact List.mem_cons_self)
  cases e2
theorem FeedAt.kx {P : Addr → Prop} {h h' : Heap} {f C : Addr} {p : Nat} (x : FeedAt h f C p) (k : Kx P h h') (hf : ¬ P f) (hc : ¬ P C) : FeedAt h' f C p :=
  ⟨let ⟨t, l⟩ := x.f; ⟨t, l.kx k hf⟩, let ⟨cvs, l, r⟩ := x.c; ⟨cvs, l.kx k hc, r⟩⟩
theorem FeedAt.ltf {h : Heap} {f C : Addr} {p : Nat} (x : FeedAt h f C p) : f < h.objs.size := let ⟨_, l⟩ := x.f; l.lt
theorem FeedAt.ltc {h : Heap} {f C : Addr} {p : Nat} (x : FeedAt h f C p) : C < h.objs.size := let ⟨_, l, _⟩ := x.c; l.lt

section
variable {w : World} {A : Around} {s : Shared} {h : Heap} {tk : Nat} {h0 : Heap} {R : Result → Shared → Prop} {E : Value → Shared → Prop} {env : Env}

theorem g_int : nsIn (kf w.params) mainGlobals (Str.ofString "int") = some none := by k_is
theorem b_int : bootBuiltins (Str.ofString "int") = some (.type "int") := by boot_by_name

theorem feed_spec {a : Addr} {vs : List Value} {n : Nat} (r : Rm (n + 1) A) (B : Bs (kf w.params) h0 h) (T : Ls h a vs) (hv : AllInt vs) (hl : vs.length ≤ 63)
    (hR : ∀ h' tk' f C, h.get? f = none → FeedAt h' f C 0 → h.get? C = none → Kx Non h h' → R (.ok (.ret (.ref f))) (Sh s h' tk')) :
    codeAny (model prg w) A (.call (.ref 221) ⟨[.ref a], []⟩) R (Sh s h tk) := by
  refine enter r B (by k_is) (by k_is) (binds := [(Str.ofString "script", .ref a)]) rfl (by rfl) (fun L h₁ tk₁ hL r₁ B₁ k₁ hm F => ?_)
  refine x_ret (e_list (s := s) (ar_cons (comp_W (s := s) (cl := []) rfl (by decide) (by decide) (e_upto (nm_L F.ns (v := .ref a) rfl ⟨a, vs, h₁, tk₁, rfl, rfl, T.kx k₁ (fun h => h), by omega, fun h₂ c us tk₂ l2 hul hum hc k₂ => ?_⟩)))))
  have B₂ := k₂.bs B₁
  have hui : AllInt us := fun v hv' => hv v (hum v hv')
  refine ca_ls r₁.h l2 (by omega) Non (fun b hb => hb.elim) (fun i ys h' => Bs (kf w.params) h0 h' ∧ AllInt ys ∧ ys.length = i) ⟨B₂, (fun v hv => absurd hv (by simp)), rfl⟩
    (fun i ys h' h'' ⟨q1, q2, q3⟩ k => ⟨q1.kx k fun b hb => B₂.off_new hb.1, q2, q3⟩) (fun i v ys h3 tk3 m3 hi ⟨q1, q2, q3⟩ n3 e3 => ?_) (fun ys h3 tk3 D3 hD3 ⟨q1, q2, q3⟩ l3 k3 => ?_)
  · obtain ⟨n, t, rfl⟩ := hui v (List.mem_of_getElem? hi)
    refine wpAny_tests_nil ?_
    rw [if_pos rfl]
    refine wpAny_BinOp (Call_ (nm_B q1 g_int b_int (callWith_type1 (ar_cons (nm_L n3 e3 (ar_nil (call_int_int (e_int fun t4 tk4 => mod_int (by decide) ?_))))))))
    refine ⟨h3, _, rfl, Kx.refl _ _, q1, fun v hv' => ?_, by simp [q3]⟩
    rcases List.mem_append.mp hv' with h1 | h1
    · exact q2 v h1
    · rw [List.mem_singleton] at h1; exact ⟨_, _, h1⟩
  · refine ar_cons (e_int fun t4 tk4 => ar_nil ⟨h3, tk4, rfl, by simp, fun h5 l5 k5 => ?_⟩)
    have kk := (k₁.trans k₂).trans k3
    refine hR h5 tk4 _ D3 (kk.gone_ge (Nat.le_refl _)) ⟨⟨t4, l5⟩, ys, l3.kx k5 (fun h => h), q2, by omega⟩ ?_ (kk.trans k5)
    exact (k₁.trans k₂).gone hD3

theorem fmod_nat {a : Int} {k : Nat} (hk : 0 < k) : ∃ n : Nat, a.fmod k = n ∧ n < k := by
  have h1 : 0 ≤ a.fmod k := Int.fmod_nonneg_of_pos a (by omega)
  have h2 : a.fmod k < k := Int.fmod_lt_of_pos a (by omega)
  exact ⟨(a.fmod k).toNat, by omega, by omega⟩

theorem dip_spec {f C : Addr} {p k : Nat} {t : Tok} {n : Nat} (r : Rm (n + 1) A) (B : Bs (kf w.params) h0 h) (T : FeedAt h f C p) (hof : h0.get? f = none) (hp : p ≤ 1000000) (hk : 0 < k)
    (hR : ∀ h' tk' m t', m < k → FeedAt h' f C (p + 1) → Kx (· = f) h h' → R (.ok (.ret (.int (m : Nat) t'))) (Sh s h' tk')) :
    codeAny (model prg w) A (.call (.ref 228) ⟨[.ref f, .int (k : Nat) t], []⟩) R (Sh s h tk) := by
  refine enter r B (by k_is) (by k_is) (binds := [(Str.ofString "feed", .ref f), (Str.ofString "top", .int (k : Nat) t)]) rfl (by rfl) (fun L h₁ tk₁ hL r₁ B₁ k₁ hm F => ?_)
  have hL1 : ∀ b, F.own b → h.get? b = none := fun b hb => get_none_of_ge (hm b hb).1
  obtain ⟨pt, lf⟩ := T.f
  obtain ⟨cvs, lc, ci, cl⟩ := T.c
  have nof : ∀ b, F.own b → f ≠ b := fun b hb e => by have := hL1 b hb; obtain ⟨n, e'⟩ := lf; rw [← e, e'] at this; cases this
  have noc : ∀ b, F.own b → C ≠ b := fun b hb e => by have := hL1 b hb; obtain ⟨n, e'⟩ := lc; rw [← e, e'] at this; cases this
  refine x_tup (nm_L F.ns (v := .ref f) rfl (as_L2 r₁.h (lf.kx k₁ fun h => h) fun h₂ k₂ => as_L (F.non k₂) fun h₃ tk₃ F3 k₃ => as_L F3 fun h₄ tk₄ F4 k₄ => ?_))
  have kk4 : Kx Non h h₄ := ((k₁.trans k₂).more k₃ fun b hb => hL1 b (.inl hb)).more k₄ fun b hb => hL1 b (.inl hb)
  have B₄ := kk4.bs B
  have lf4 := lf.kx kk4 fun h => h
  have lc4 := lc.kx kk4 fun h => h
  refine wpAny_execs_cons (wpAny_Assign_Subscript (wpAny_BinOp (nm_L F4.ns (v := .int (p : Nat) pt) (by simp) (e_int fun t5 tk5 => add_int (nm_L F4.ns (v := .ref f) rfl (e_int fun t6 tk6 => set_ls lf4 (by decide) (by simp) (by simp) fun h₇ l7 k₇ => ?_))))))
  have F7 := F4.kx k₇ fun b hb hm' => nof b hm' hb.symm
  have lc7 : Ls h₇ C cvs := lc4.kx k₇ T.ne
  have kk7 : Kx (· = f) h h₇ := kk4.ofNon.trans k₇
  have feed7 : FeedAt h₇ f C (p + 1) := ⟨⟨_, by simpa using l7⟩, cvs, lc7, ci, cl⟩
  have B₇ := B₄.kx k₇ fun b hb => by rw [hb]; exact hof
  have fin : ∀ h' tk' a t', Kx Non h₇ h' → R (.ok (.ret (.int (Int.fmod a (k : Nat)) t'))) (Sh s h' tk') := fun h' tk' a t' k' => by
    obtain ⟨m, e, hm'⟩ := fmod_nat (a := a) hk
    rw [e]
    exact hR h' tk' m t' hm' (feed7.kx k' (fun h => h) fun h => h) (kk7.trans k'.ofNon)
  refine x_if (wpAny_isTrue_Compare1 (nm_L F7.ns (v := .int (p : Nat) pt) (by simp) (e_len B₇ (nm_L F7.ns (v := .ref C) ((if_neg (by decide)).trans (if_pos rfl)) (len_ls lc7 (by omega) fun t8 tk8 => lt_int (wpAny_truthy_bool ?_))))))
  by_cases hlt : p < cvs.length
  · rw [if_pos (decide_eq_true (by omega))]
    obtain ⟨n', t', hx⟩ := ci cvs[p] (List.getElem_mem hlt)
    refine x_ret (wpAny_BinOp (Subscript_ (nm_L F7.ns (v := .ref C) ((if_neg (by decide)).trans (if_pos rfl)) (nm_L F7.ns (v := .int (p : Nat) pt) (by simp) (sub_ls lc7 (by omega) (by omega) (x := .int n' t') (by rw [Int.toNat_natCast, ← hx]; exact List.getElem?_eq_getElem hlt) ?_)))))
    exact nm_L F7.ns (v := .int (k : Nat) t) rfl (mod_int (by omega) (fin h₇ _ n' _ (Kx.refl _ _)))
  · rw [if_neg (by simp; omega)]
    refine wpAny_execs_nil ?_
    have hpb : Builtin.Int.intBits (p : Nat) ≤ 64 := intBits_le_64 (by omega) (by omega)
    refine x_ret ?_
    iterate 7 refine wpAny_BinOp ?_
    refine e_int fun t9 tk9 => nm_L F7.ns (v := .int (p : Nat) pt) (by simp) (mul_int ?_ (IntMulOk.of_right hpb))
    refine nm_L F7.ns (v := .int (p : Nat) pt) (by simp) (mul_int ?_ (IntMulOk.of_right hpb))
    refine wpAny_BinOp (e_int fun t9 tk9 => nm_L F7.ns (v := .int (p : Nat) pt) (by simp) (mul_int ?_ (IntMulOk.of_right hpb)))
    refine add_int ?_
    refine e_len B₇ (nm_L F7.ns (v := .ref C) ((if_neg (by decide)).trans (if_pos rfl)) (len_ls lc7 (by omega) fun t8 tk8 => add_int ?_))
    refine e_int fun t10 tk10 => add_int (e_int fun t11 tk11 => mod_int (by decide) ?_)
    exact nm_L F7.ns (v := .int (k : Nat) t) rfl (mod_int (by omega) (fin h₇ _ _ _ (Kx.refl _ _)))
end
end Mine

namespace Mine

/-- how many parts, how many dips a drawn term has at the most -/
def nParts : Nat → Nat
  | 0 => 1
  | d + 1 => 1 + 3 * nParts d
def nDips : Nat → Nat
  | 0 => 1
  | d + 1 => 2 + 3 * nDips d
/-- a term that the law draws -/
structure Drawn' (d : Nat) (t : Tree) : Prop where
  ht : ht t ≤ d + 1
  parts : (subs t).length ≤ nParts d
  ops : ∀ u ∈ subs t, u.op ∈ opsL
theorem subsL_le {n : Nat} : ∀ {ts : List Tree}, (∀ t ∈ ts, (subs t).length ≤ n) → (subsL ts).length ≤ ts.length * n
  | [], _ => by simp [subsL]
  | t :: ts, h => by
    rw [subsL, List.length_append, List.length_cons, Nat.succ_mul]
    have h1 := h t List.mem_cons_self
    have h2 := subsL_le fun u hu => h u (List.mem_cons_of_mem _ hu)
    omega
theorem htL_le {n : Nat} : ∀ {ts : List Tree}, (∀ t ∈ ts, ht t ≤ n) → htL ts ≤ n
  | [], _ => Nat.zero_le _
  | t :: ts, h => by
    rw [htL]
    exact Nat.max_le.mpr ⟨h t List.mem_cons_self, htL_le fun u hu => h u (List.mem_cons_of_mem _ hu)⟩
theorem Drawn'.leaf {d : Nat} {op : Str} (ho : op ∈ opsL) : Drawn' d (.node op []) := by
  refine ⟨by rw [Mine.ht, htL]; omega, ?_, fun u hu => ?_⟩
  · rw [subs, subsL]; cases d <;> simp [nParts]
  · rw [subs, subsL] at hu; rw [List.mem_singleton.mp hu]; exact ho
theorem Drawn'.node {d : Nat} {op : Str} {ts : List Tree} (ho : op ∈ opsL) (hl : ts.length ≤ 3) (h : ∀ t ∈ ts, Drawn' d t) : Drawn' (d + 1) (.node op ts) := by
  refine ⟨by rw [Mine.ht]; exact Nat.succ_le_succ (htL_le fun t ht' => (h t ht').ht), ?_, fun u hu => ?_⟩
  · rw [subs, List.length_cons]
    have h1 := subsL_le fun t ht' => (h t ht').parts
    have h2 : ts.length * nParts d ≤ 3 * nParts d := Nat.mul_le_mul_right _ hl
    show _ ≤ 1 + 3 * nParts d
    omega
  · rw [subs] at hu
    rcases List.mem_cons.mp hu with rfl | hu
    · exact ho
    · obtain ⟨t, ht', hu'⟩ := mem_subsL.mp hu
      exact (h t ht').ops u hu'

section
variable {w : World} {A : Around} {s : Shared} {h : Heap} {tk : Nat} {h0 : Heap} {R : Result → Shared → Prop} {E : Value → Shared → Prop} {env : Env}

theorem g_ops : nsIn (kf w.params) mainGlobals (Str.ofString "_law_ops") = some (some (.ref 216)) := by k_is
theorem k_ops : keepIn (kf w.params) (.ref 216) = true := by k_is
theorem g_dip : nsIn (kf w.params) mainGlobals (Str.ofString "_law_dip") = some (some (.ref 228)) := by k_is
theorem k_dip : keepIn (kf w.params) (.ref 228) = true := by k_is
theorem g_drawn : nsIn (kf w.params) mainGlobals (Str.ofString "_law_drawn") = some (some (.ref 240)) := by k_is
theorem k_drawn : keepIn (kf w.params) (.ref 240) = true := by k_is
theorem g_range : nsIn (kf w.params) mainGlobals (Str.ofString "range") = some none := by k_is
theorem b_range : bootBuiltins (Str.ofString "range") = some (.type "range") := by boot_by_name

abbrev DrawnSpec (w : World) (h0 : Heap) (d : Nat) : Prop := ∀ {A : Around} {s : Shared} {h : Heap} {tk : Nat} {R : Result → Shared → Prop} {f C : Addr} {p : Nat} {t : Tok}, Rm (d + 2) A → Bs (kf w.params) h0 h → FeedAt h f C p → h0.get? f = none →
    p + nDips d ≤ 1000 → (∀ h' tk' tr v p', Drawn' d tr → IsT h' tr v → p' ≤ p + nDips d → FeedAt h' f C p' → Kx (· = f) h h' → R (.ok (.ret v)) (Sh s h' tk')) →
    codeAny (model prg w) A (.call (.ref 240) ⟨[.ref f, .int (d : Nat) t], []⟩) R (Sh s h tk)

theorem drawn_step {w : World} {h0 : Heap} (d : Nat) (ih : ∀ d', d = d' + 1 → DrawnSpec w h0 d') : DrawnSpec w h0 d := by
  intro A s h tk R f C p t r B T hof hp hR
  refine enter r B (by k_is) (by k_is) (binds := [(Str.ofString "feed", .ref f), (Str.ofString "deep", .int (d : Nat) t)]) rfl (by rfl) (fun L h₁ tk₁ hL r₁ B₁ k₁ hm F => ?_)
  have hL1 : ∀ b, F.own b → h.get? b = none := fun b hb => get_none_of_ge (hm b hb).1
  have fl : ∃ o, h.get? f = some o := let ⟨_, n, e⟩ := T.f; ⟨_, e⟩
  have cl : ∃ o, h.get? C = some o := let ⟨_, ⟨n, e⟩, _⟩ := T.c; ⟨_, e⟩
  have nof : ∀ b, F.own b → f ≠ b := fun b hb e => by obtain ⟨o, e'⟩ := fl; rw [e, hL1 b hb] at e'; cases e'
  have noc : ∀ b, F.own b → C ≠ b := fun b hb e => by obtain ⟨o, e'⟩ := cl; rw [e, hL1 b hb] at e'; cases e'
  have m1 : F.own (L + 1) := .inr ⟨Str.ofString "feed", mem_of_lookup (by rfl)⟩
  have m2 : F.own (L + 2) := .inr ⟨Str.ofString "deep", mem_of_lookup (by rfl)⟩
  have T1 := T.kx k₁ (fun h => h) fun h => h
  -- op
  refine x_set (Subscript_ (Call_ (nm_K B₁ g_ops (cw_K0 k_ops B₁ (wpAny_call (ops_spec (n := d) r₁ B₁ fun h₂ tk₂ D2 vs2 hD2 l2 sv2 k₂ => ?_))))))
  have B₂ := k₂.bs B₁
  have F2 := F.non k₂
  have T2 := T1.kx k₂ (fun h => h) fun h => h
  refine Call_ (nm_K B₂ g_dip (cw_K (K := kf w.params) (h0 := h0) k_dip (ar_cons (nm_C (F2.cell (Str.ofString "feed") (L + 1) (by rfl)) (ar_cons ?_)))))
  refine e_len B₂ (Call_ (nm_K B₂ g_ops (cw_K0 k_ops B₂ (wpAny_call (ops_spec (n := d) r₁ B₂ fun h₃ tk₃ D3 vs3 hD3 l3 sv3 k₃ => ?_)))))
  have e10 : vs3.length = 10 := by rw [← Paired.length sv3]; rfl
  refine len_ls l3 (by omega) fun t4 tk4 => ar_nil ⟨k₃.bs B₂, wpAny_call ?_⟩
  rw [e10]
  have B₃ := k₃.bs B₂
  have T3 := T2.kx k₃ (fun h => h) fun h => h
  have kk3 := (k₁.trans k₂).trans k₃
  refine dip_spec (n := d) (k := 10) r₁ B₃ T3 hof (by omega) (by decide) fun h₅ tk₅ q t5 hq T5 k₅ => ?_
  have nfD : D2 ≠ f := fun e => by
    have := (k₁.trans (Kx.refl Non h₁)).all
    obtain ⟨o, e'⟩ := fl
    have := k₁.all _ _ e'
    rw [← e, hD2] at this; cases this
  have l5 : Ls h₅ D2 vs2 := (l2.kx k₃ fun h => h).kx k₅ nfD
  have hq2 : q < vs2.length := by rw [← Paired.length sv2]; exact hq
  obtain ⟨op, to, hop, ev⟩ := sv2.at (List.getElem?_eq_getElem hq2)
  have hopm : op ∈ opsL := List.mem_of_getElem? hop
  refine sub_ls (x := .str op to) l5 (by omega) (by omega) (by rw [Int.toNat_natCast, ← ev]; exact List.getElem?_eq_getElem hq2) ?_
  have F5 := (F2.non k₃).kx k₅ fun b hb hm' => nof b hm' hb.symm
  have kk5 : Kx (· = f) h h₅ := kk3.ofNon.trans k₅
  have B₅ := B₃.kx k₅ fun b hb => by rw [hb]; exact hof
  refine st_L F5 fun h₆ tk₆ F6 k₆ => ?_
  have kk6 : Kx (· = f) h h₆ := ((kk5.mono (Q := fun b => b = f ∨ b = L) fun b hb => .inl hb).trans (k₆.mono fun b hb => .inr hb)).fresh fun b hb => hb.elim .inl fun e => .inr (hL1 b (.inl e))
  have T6 := T5.kx k₆ (nof _ (.inl rfl)) (noc _ (.inl rfl))
  have B₆ := B.kx kk6 fun b hb => by rw [hb]; exact hof
  refine x_set (wpAny_mono (Q := fun v s' => ∃ h₇ tk₇ m tm p2, v = Value.int ((m : Nat) : Int) tm ∧ s' = Sh s h₇ tk₇ ∧ m ≤ 3 ∧ (d = 0 → m = 0) ∧ FeedAt h₇ f C p2 ∧ p2 + m * nDips (d - 1) ≤ p + nDips d ∧ Kx (· = f) h₆ h₇) ?_ ?_ fun _ _ z => z)
  · have c6 := F6.cell (Str.ofString "deep") (L + 2) (by rfl)
    refine wpAny_IfExp (wpAny_isTrue_Compare1 (nm_C c6 (e_int fun t7 tk7 => gt_int (wpAny_truthy_bool ?_))))
    cases d with
    | zero =>
      rw [if_neg (by decide)]
      exact e_int fun t8 tk8 => ⟨h₆, tk8, 0, t8, p + 1, rfl, rfl, by omega, fun _ => rfl, T6, by show p + 1 + 0 * _ ≤ p + 1; omega, Kx.refl _ _⟩
    | succ d =>
      rw [if_pos (by simp)]
      refine Call_ (nm_K B₆ g_dip (cw_K (K := kf w.params) (h0 := h0) k_dip (ar_cons (nm_C (F6.cell (Str.ofString "feed") (L + 1) (by rfl)) (ar_cons (e_int fun t8 tk8 => ar_nil ⟨B₆, wpAny_call ?_⟩))))))
      refine dip_spec (n := d + 1) (k := 4) r₁ B₆ T6 hof (by omega) (by decide) fun h₉ tk₉ m t9 hm4 T9 k₉ => ?_
      refine ⟨h₉, tk₉, m, t9, p + 2, rfl, rfl, by omega, (fun e => absurd e (by omega)), T9, ?_, k₉⟩
      have : m * nDips d ≤ 3 * nDips d := Nat.mul_le_mul_right _ (by omega)
      show p + 2 + m * nDips d ≤ p + (2 + 3 * nDips d)
      omega
  · rintro v s' ⟨h₇, tk₇, m, tm, p2, rfl, rfl, hm3, hm0, T7, hp2, k₇⟩
    have F7 := F6.kx k₇ fun b hb hm' => nof b hm' hb.symm
    refine st_L F7 fun h₈ tk₈ F8 k₈ => ?_
    have kk7 := kk6.trans k₇
    have kk8 : Kx (· = f) h h₈ := ((kk7.mono (Q := fun b => b = f ∨ b = L) fun b hb => .inl hb).trans (k₈.mono fun b hb => .inr hb)).fresh fun b hb => hb.elim .inl fun e => .inr (hL1 b (.inl e))
    have T8 := T7.kx k₈ (nof _ (.inl rfl)) (noc _ (.inl rfl))
    have B₈ := B.kx kk8 fun b hb => by rw [hb]; exact hof
    refine x_ret (wpAny_BinOp (e_tuple (s := s) (ar_cons (nm_L F8.ns (v := .str op to) rfl (ar_nil ⟨h₈, tk₈, rfl, by simp, fun h₉ t9 k₉ => ?_⟩)))))
    have B₉ := k₉.bs B₈
    have F9 := F8.non k₉
    have T9 := T8.kx k₉ (fun h => h) fun h => h
    refine Call_ (nm_B B₉ g_tuple b_tuple (callWith_type1 (ar_cons ?_)))
    refine (comp_W (s := s) (cl := [(Str.ofString "feed", L + 1), (Str.ofString "deep", L + 2)]) rfl (by decide) (by decide) (Call_ (nm_B B₉ g_range b_range ?_)))
    refine PyProof.Rows.callWith_type1 (ar_cons (nm_L F9.ns (v := .int (m : Nat) tm) (if_pos rfl) ?_))
    refine ar_nil (call_range_1 ?_)
    have k10 := Kx.push h₉ { cls := .type "range", data := .fields #[.int 0 tk₈, .int (m : Nat) tm, .int 1 (tk₈ + 1)] }
    have hr := IsRange.new h₉ 0 (m : Nat) 1 tk₈ tm (tk₈ + 1)
    generalize h₉.push { cls := .type "range", data := .fields #[.int 0 tk₈, .int (m : Nat) tm, .int 1 (tk₈ + 1)] } = hX at hr k10 ⊢
    have BX := k10.bs B₉
    have FX := F9.non k10
    have TX := T9.kx k10 (fun h => h) fun h => h
    have c1 := FX.cell (Str.ofString "feed") (L + 1) (by rfl)
    have c2 := FX.cell (Str.ofString "deep") (L + 2) (by rfl)
    refine ca_rg (h := hX) (tk := tk₈ + 1 + 1) r₁.h hr (by omega) (· = f) (fun b hb => by rw [hb]; exact TX.ltf) (fun i ys h' => Bs (kf w.params) h0 h' ∧ h'.IsCell (L + 1) (some (.ref f)) ∧ h'.IsCell (L + 2) (some (.int (d : Nat) t)) ∧
        ∃ p' ts, FeedAt h' f C p' ∧ p' ≤ p2 + i * nDips (d - 1) ∧ IsTs h' ts ys ∧ ts.length = i ∧ ∀ t ∈ ts, Drawn' (d - 1) t)
      ⟨BX, c1, c2, p2, [], TX, by omega, by rw [IsTs], rfl, fun t ht' => by cases ht'⟩ (fun i ys h' h'' ⟨q1, q2, q3, p', ts, q4, q5, q6, q7, q8⟩ k => ?_) (fun i ys h4 tk4 m4 hi ⟨q1, q2, q3, p', ts, q4, q5, q6, q7, q8⟩ n4 => ?_) (fun ys h4 tk4 D4 hD4 ⟨q1, q2, q3, p', ts, q4, q5, q6, q7, q8⟩ l4 k4 => ?_)
    · have old : ∀ b, b < hX.objs.size → ¬ (hX.objs.size ≤ b ∧ b ≤ hX.objs.size + 2) := fun b hb h' => absurd hb (Nat.not_lt.mpr h'.1)
      exact ⟨q1.kx k fun b hb => BX.off_new hb.1, Cell.kx q2 k (old _ c1.lt), Cell.kx q3 k (old _ c2.lt), p', ts, q4.kx k (old _ TX.ltf) (old _ TX.ltc), q5, q6.kx k, q7, q8⟩
    · obtain ⟨d', rfl⟩ : ∃ d', d = d' + 1 := ⟨d - 1, by have : d ≠ 0 := fun e => by have := hm0 e; omega
                                                        omega⟩
      refine wpAny_tests_nil ?_
      rw [if_pos rfl]
      have hdn : d' + 1 - 1 = d' := rfl
      rw [hdn] at q5 q8 hp2
      have hi1 : i * nDips d' + nDips d' ≤ m * nDips d' := by rw [← Nat.succ_mul]; exact Nat.mul_le_mul_right _ hi
      refine Call_ (nm_K q1 g_drawn (cw_K (K := kf w.params) (h0 := h0) k_drawn (ar_cons (nm_C q2 (ar_cons (wpAny_BinOp (nm_C q3 (e_int fun t5 tk5 => sub_int (ar_nil ⟨q1, wpAny_call ?_⟩)))))))))
      rw [show ((d' + 1 : Nat) : Int) - 1 = ((d' : Nat) : Int) by omega]
      refine ih d' rfl r₁ q1 q4 hof (by omega) fun h6 tk6 tr v6 p6 dr i6 hp6 T6' k6 => ?_
      refine ⟨h6, tk6, rfl, k6, q1.kx k6 (fun b hb => by rw [hb]; exact hof), Cell.kx q2 k6 (fun e => nof _ m1 e.symm), Cell.kx q3 k6 (fun e => nof _ m2 e.symm), p6, ts ++ [tr], T6', ?_, (q6.kx k6).snoc i6, by simp [q7], fun u hu => ?_⟩
      · show p6 ≤ p2 + (i + 1) * nDips d'
        rw [Nat.succ_mul]; omega
      · rcases List.mem_append.mp hu with hu | hu
        · exact q8 u hu
        · rw [List.mem_singleton.mp hu]; exact dr
    · have hyl : ys.length = m := by rw [q6.length, q7]
      refine ar_nil (call_tuple l4 (by omega) fun h5 c5 t5 hc5 k5 => ?_)
      have kX5 : Kx (· = f) h₉ h5 := (k10.ofNon.trans k4).trans k5.ofNon
      refine add_tp (t9.kx kX5) t5 (by simp; omega) fun h6 c6 t6 k6 => ?_
      have kAll : Kx (· = f) h h6 := ((kk8.trans k₉.ofNon).trans kX5).trans k6.ofNon
      refine hR h6 _ (.node op ts) _ p' ?_ ?_ (by omega) ((q4.kx k5 (fun h => h) fun h => h).kx k6 (fun h => h) fun h => h) kAll
      · cases d with
        | zero =>
          have : ts = [] := List.length_eq_zero_iff.mp (q7.trans (hm0 rfl))
          rw [this]; exact Drawn'.leaf hopm
        | succ d => exact Drawn'.node hopm (by omega) q8
      · rw [IsT]
        exact ⟨c6, to, ys, rfl, t6, (q6.kx k5).kx k6⟩

theorem drawn_spec {w : World} {h0 : Heap} : ∀ d, DrawnSpec w h0 d
  | 0 => drawn_step 0 fun d' e => by cases e
  | d + 1 => drawn_step (d + 1) fun d' e => by cases e; exact drawn_spec d
end
end Mine

namespace Mine

mutual
def teq : Tree → Tree → Bool
  | .node a ks, .node b ls => a == b && teqL ks ls
def teqL : List Tree → List Tree → Bool
  | [], [] => true
  | t :: ts, u :: us => teq t u && teqL ts us
  | _, _ => false
end
mutual
theorem teq_iff : ∀ {t u : Tree}, teq t u = true ↔ t = u
  | .node a ks, .node b ls => by
    rw [teq, Bool.and_eq_true, beq_iff_eq, teqL_iff]
    constructor
    · rintro ⟨rfl, rfl⟩; rfl
    · intro h; cases h; exact ⟨rfl, rfl⟩
theorem teqL_iff : ∀ {ts us : List Tree}, teqL ts us = true ↔ ts = us
  | [], [] => by simp [teqL]
  | t :: ts, [] => by simp [teqL]
  | [], u :: us => by simp [teqL]
  | t :: ts, u :: us => by
    rw [teqL, Bool.and_eq_true, teq_iff, teqL_iff]
    constructor
    · rintro ⟨rfl, rfl⟩; rfl
    · intro h; cases h; exact ⟨rfl, rfl⟩
end
instance : DecidableEq Tree := fun t u => decidable_of_iff (teq t u = true) teq_iff

mutual
theorem IsT.inj {h : Heap} : ∀ {t u : Tree} {v : Value}, IsT h t v → IsT h u v → t = u
  | .node a ks, .node b ls, v, x, y => by
    rw [IsT] at x y
    obtain ⟨p, t1, vs, rfl, T1, r1⟩ := x
    obtain ⟨q, t2, ws, e, T2, r2⟩ := y
    cases e
    have := T1.inj T2
    cases this
    rw [IsTs.inj r1 r2]
theorem IsTs.inj {h : Heap} : ∀ {ts us : List Tree} {vs : List Value}, IsTs h ts vs → IsTs h us vs → ts = us
  | [], [], vs, _, _ => rfl
  | t :: ts, [], vs, x, y => by rw [IsTs] at x; rw [IsTs] at y; obtain ⟨v, vs', e, _⟩ := x; rw [y] at e; cases e
  | [], u :: us, vs, x, y => by rw [IsTs] at x; rw [IsTs] at y; obtain ⟨v, vs', e, _⟩ := y; rw [x] at e; cases e
  | t :: ts, u :: us, vs, x, y => by
    rw [IsTs] at x y
    obtain ⟨v, vs', e, a, b⟩ := x
    obtain ⟨v', vs'', e', a', b'⟩ := y
    rw [e] at e'; cases e'
    rw [IsT.inj a a', IsTs.inj b b']
end

theorem Around.in1_units (A : Around) : A.in1.units = A.units + 1 := rfl
theorem tree_eqAt {s : Shared} : ∀ (t u : Tree) {A : Around} {v w : Value}, IsT s.heap t v → IsT s.heap u w → A.units + ht t < 9800 → SeqAt.EqAt A s v w (decide (t = u)) := by
  refine tree_ind fun op ks ih u A v w x y hu => ?_
  obtain ⟨a, t1, vs, rfl, T1, r1⟩ := x.open
  obtain ⟨b, t2, ws, rfl, T2, r2⟩ := y.open
  by_cases hab : a = b
  · subst hab
    have : Tree.node op ks = u := x.inj y
    rw [decide_eq_true this]
    exact SeqAt.EqAt.same _
  · refine SeqAt.EqAt.of_refs hab ?_
    have hu' : A.units < cLine := by show _ < 9900; omega
    have R := SeqAt.RcAt.tuples (A := A) (e := fun j => match j with | 0 => op == u.op | j + 1 => decide (ks[j]? = u.kids[j]?)) T1.isTuple T2.isTuple hu' (fun j h1 h2 => ?_)
    · have hl1 : vs.length = ks.length := r1.length
      have hl2 : ws.length = u.kids.length := r2.length
      have key : ((List.range (min (Value.str (Tree.node op ks).op t1 :: vs).toArray.size (Value.str u.op t2 :: ws).toArray.size)).all (fun j => match j with | 0 => op == u.op | j + 1 => decide (ks[j]? = u.kids[j]?)) &&
          (Value.str (Tree.node op ks).op t1 :: vs).toArray.size == (Value.str u.op t2 :: ws).toArray.size) = decide (Tree.node op ks = u) := by
        rw [Bool.eq_iff_iff, Bool.and_eq_true, List.all_eq_true, beq_iff_eq, decide_eq_true_eq]
        simp only [List.size_toArray, List.length_cons, hl1, hl2, List.mem_range]
        constructor
        · rintro ⟨hall, hsz⟩
          cases u with
          | node op' ks' =>
            have h0 := hall 0 (by omega)
            have e0 : op = op' := by simpa [Tree.op] using h0
            have e1 : ks = ks' := by
              refine List.ext_getElem? fun j => ?_
              have hsz' : ks.length = ks'.length := by have : ks.length + 1 = ks'.length + 1 := hsz; omega
              by_cases hj : j < ks.length
              · have := hall (j + 1) (by show j + 1 < min (ks.length + 1) (ks'.length + 1); omega)
                exact of_decide_eq_true this
              · rw [List.getElem?_eq_none (by omega), List.getElem?_eq_none (by omega)]
            rw [e0, e1]
        · intro e
          subst e
          refine ⟨fun j _ => ?_, rfl⟩
          cases j with
          | zero => exact beq_self_eq_true _
          | succ j => exact decide_eq_true rfl
      rw [key] at R
      exact R
    · cases j with
      | zero =>
        show SeqAt.EqAt A.in1 s (Value.str op t1) (Value.str u.op t2) (op == u.op)
        exact (eqGives_str op u.op t1 t2).at _ _
      | succ j =>
        have h1' : j < vs.length := by simp at h1; omega
        have h2' : j < ws.length := by simp at h2; omega
        obtain ⟨k1, hk1, i1⟩ := r1.get (List.getElem?_eq_getElem h1')
        obtain ⟨k2, hk2, i2⟩ := r2.get (List.getElem?_eq_getElem h2')
        have hk1' : ks[j]? = some k1 := hk1
        show SeqAt.EqAt A.in1 s vs[j] ws[j] (decide (ks[j]? = u.kids[j]?))
        rw [hk1', hk2]
        have e : decide (some k1 = some k2) = decide (k1 = k2) := by simp
        rw [e]
        have hmem : k1 ∈ ks := List.mem_of_getElem? hk1'
        have hh := ht_le_of_mem hmem
        rw [ht] at hu
        exact ih k1 hmem k2 i1 i2 (by rw [Around.in1_units]; omega)

/-- the trees, each once, as they come -/
def onceTStep (ks : List Tree) (x : Tree) : List Tree := if x ∈ ks then ks else ks ++ [x]
def onceT (xs : List Tree) : List Tree := xs.foldl onceTStep []
theorem onceT_snoc (xs : List Tree) (x : Tree) : onceT (xs ++ [x]) = onceTStep (onceT xs) x := by simp [onceT, List.foldl_append]
theorem onceT_len (xs : List Tree) : (onceT xs).length ≤ xs.length := by
  induction xs using snoc_ind with
  | h0 => exact Nat.le_refl _
  | h1 xs x ih =>
    rw [onceT_snoc]; unfold onceTStep
    split
    · simp; omega
    · simp; omega
theorem onceT_nodup (xs : List Tree) : (onceT xs).Nodup := by
  induction xs using snoc_ind with
  | h0 => exact List.nodup_nil
  | h1 xs x ih =>
    rw [onceT_snoc]; unfold onceTStep
    split
    · exact ih
    · rename_i hx
      rw [List.nodup_append]
      exact ⟨ih, by simp, fun a ha b hb => by rw [List.mem_singleton.mp hb]; rintro rfl; exact hx ha⟩
theorem mem_onceT (xs : List Tree) (y : Tree) : y ∈ onceT xs ↔ y ∈ xs := by
  induction xs using snoc_ind with
  | h0 => rfl
  | h1 xs x ih =>
    rw [onceT_snoc]; unfold onceTStep
    split
    · rename_i hx
      rw [List.mem_append, ih]
      constructor
      · exact .inl
      · rintro (h | h)
        · exact h
        · rw [List.mem_singleton] at h; subst h; exact ih.mp hx
    · simp [ih]
theorem nodup_len_le {α : Type} [DecidableEq α] : ∀ {l k : List α}, l.Nodup → (∀ x ∈ l, x ∈ k) → l.length ≤ k.length
  | [], _, _, _ => Nat.zero_le _
  | x :: l, k, hn, h => by
    have hx := h x List.mem_cons_self
    have hn' := List.nodup_cons.mp hn
    have h1 : l.length ≤ (k.erase x).length := nodup_len_le hn'.2 fun y hy => by
      have hyk := h y (List.mem_cons_of_mem _ hy)
      have hne : y ≠ x := by rintro rfl; exact hn'.1 hy
      exact (List.mem_erase_of_ne hne).mpr hyk
    rw [List.length_erase_of_mem hx] at h1
    have : 0 < k.length := List.length_pos_of_mem hx
    simp only [List.length_cons]; omega
theorem nodup_len_eq {α : Type} [DecidableEq α] {l k : List α} (hl : l.Nodup) (hk : k.Nodup) (h : ∀ x, x ∈ l ↔ x ∈ k) : l.length = k.length :=
  Nat.le_antisymm (nodup_len_le hl fun x hx => (h x).mp hx) (nodup_len_le hk fun x hx => (h x).mpr hx)
end Mine

namespace Mine
abbrev Fx.env {env : Env} {m cm : Str → Option Value} {h : Heap} (_ : Fx env m cm h) : Env := env

section
variable {w : World} {A : Around} {s : Shared} {h : Heap} {tk : Nat} {h0 : Heap} {R : Result → Shared → Prop} {E : Value → Shared → Prop} {env : Env}

theorem notIn_trees {a : Addr} {us : List Tree} {vs : List Value} {t : Tree} {v : Value} {Q : Value → Shared → Prop} (T : Ls s.heap a vs) (hv : IsTs s.heap us vs) (ht' : IsT s.heap t v) (hu : A.units + 200 < 9700) (hh : ∀ u ∈ us, ht u ≤ 100)
    (hQ : Q (.bool (!decide (t ∈ us))) s) : wpAny (model prg w) A (compareOp .NotIn v (.ref a)) Q E s := by
  classical
  refine SeqAt.notIn_listAt (fun y => decide (∃ u, u ∈ us ∧ IsT s.heap u y ∧ u = t)) T.isList (fun y hy => ?_) ?_
  · obtain ⟨i, hi⟩ := List.mem_iff_getElem?.mp (show y ∈ vs by simpa using hy)
    obtain ⟨u, hu', iu⟩ := hv.get hi
    have hm := List.mem_of_getElem? hu'
    have e : decide (∃ u, u ∈ us ∧ IsT s.heap u y ∧ u = t) = decide (u = t) := by
      rw [Bool.eq_iff_iff, decide_eq_true_eq, decide_eq_true_eq]
      constructor
      · rintro ⟨u', _, iu', rfl⟩; exact iu.inj iu'
      · rintro rfl; exact ⟨u, hm, iu, rfl⟩
    show SeqAt.EqAt _ _ _ _ (decide _)
    rw [e]
    exact tree_eqAt u t iu ht' (by have := hh u hm; show A.units + 1 + _ < _; omega)
  · have e : vs.toArray.any (fun y => decide (∃ u, u ∈ us ∧ IsT s.heap u y ∧ u = t)) = decide (t ∈ us) := by
      rw [Bool.eq_iff_iff, decide_eq_true_eq, List.any_toArray, List.any_eq_true]
      constructor
      · rintro ⟨y, _, hy⟩
        obtain ⟨u, hm, _, rfl⟩ := of_decide_eq_true hy
        exact hm
      · intro hm
        have get : ∀ {us : List Tree} {vs : List Value}, IsTs s.heap us vs → t ∈ us → ∃ y ∈ vs, IsT s.heap t y := by
          intro us
          induction us with
          | nil => intro vs _ hm; cases hm
          | cons u us ih =>
            intro vs x hm
            rw [IsTs] at x
            obtain ⟨v, vs', rfl, a, b⟩ := x
            rcases List.mem_cons.mp hm with rfl | hm
            · exact ⟨v, List.mem_cons_self, a⟩
            · obtain ⟨y, hy, iy⟩ := ih b hm; exact ⟨y, List.mem_cons_of_mem _ hy, iy⟩
        obtain ⟨y, hy, iy⟩ := get hv hm
        exact ⟨y, hy, decide_eq_true ⟨t, hm, iy, rfl⟩⟩
    rw [e]; exact hQ

theorem x_if_join {prog : Program} {s : Shared} {test : Expr} {b1 b2 rest : List Stmt} {pos : Pos} {Q : Flow → Shared → Prop} (P : Shared → Prop)
    (hh : wpAny (model prog w) A (isTrue test env (eval test env)) (fun b s₂ => if b then wpAny (model prog w) A (execs b1 env) (fun f s' => f = .next ∧ P s') E s₂
      else wpAny (model prog w) A (execs b2 env) (fun f s' => f = .next ∧ P s') E s₂) E s) (hr : ∀ s', P s' → wpAny (model prog w) A (execs rest env) Q E s') :
    wpAny (model prog w) A (execs (.If test b1 b2 pos :: rest) env) Q E s := by
  refine x_if (wpAny_mono hh (fun b s₂ x => ?_) fun _ _ z => z)
  cases b with
  | true => simp only [if_true] at x ⊢; exact wpAny_mono x (fun f s' ⟨e, p⟩ => by subst e; exact hr s' p) fun _ _ z => z
  | false => simp only [Bool.false_eq_true, if_false] at x ⊢; exact wpAny_mono x (fun f s' ⟨e, p⟩ => by subst e; exact hr s' p) fun _ _ z => z
theorem ht_sub : ∀ (t : Tree) {u : Tree}, u ∈ subs t → ht u ≤ ht t := by
  refine tree_ind fun op ks ih u hu => ?_
  rw [subs] at hu
  rcases List.mem_cons.mp hu with rfl | hu
  · exact Nat.le_refl _
  · obtain ⟨k, hk, hu⟩ := mem_subsL.mp hu
    have h1 := ih k hk hu
    have h2 := ht_le_of_mem hk
    rw [ht]; omega
theorem different_spec {t : Tree} {v : Value} {n : Nat} (r : Rm (n + 1) A) (B : Bs (kf w.params) h0 h) (hT : IsT h t v) (hsz : (subs t).length ≤ 1000) (hht : ht t ≤ 100)
    (hR : ∀ h' tk' t', Kx Non h h' → R (.ok (.ret (.int ((onceT (subs t)).length : Nat) t'))) (Sh s h' tk')) :
    codeAny (model prg w) A (.call (.ref 261) ⟨[v], []⟩) R (Sh s h tk) := by
  refine enter r B (by k_is) (by k_is) (binds := [(Str.ofString "t", v)]) rfl (by rfl) (fun L h₁ tk₁ hL r₁ B₁ k₁ hm F => ?_)
  have hL1 : ∀ b, F.own b → h.get? b = none := fun b hb => get_none_of_ge (hm b hb).1
  refine x_swap (s := s) (names := [Str.ofString "found", Str.ofString "waiting"]) r₁.h ?_
  refine e_tuple (s := s) (ar_cons (e_nil fun h₂ l2 k₂ => ar_cons (e_list (s := s) (ar_cons (nm_L (Ns.kx F.ns k₂ fun h => h) (v := v) rfl (ar_nil ⟨h₂, tk₁, rfl, by simp, fun h₃ l3 k₃ => ar_nil ⟨h₃, tk₁, rfl, by simp, fun h₄ t4 k₄ => ?_⟩⟩))))))
  refine ⟨_, _, h₄, tk₁, rfl, rfl, t4, rfl, fun h₅ k₅ => ?_⟩
  have F5 := (((F.non k₂).non k₃).non k₄).non k₅
  refine in_order (bindName_ (st_L F5 fun h₆ tk₆ F6 k₆ => in_order (bindName_ (st_L F6 fun h₇ tk₇ F7 k₇ => in_order0 ?_))))
  have kk1 : Kx Non h h₂ := k₁.trans k₂
  have kk5 : Kx Non h h₅ := ((kk1.trans k₃).trans k₄).trans k₅
  have kk7 : Kx Non h h₇ := (kk5.more k₆ fun b hb => hL1 b (.inl hb)).more k₇ fun b hb => hL1 b (.inl hb)
  have hRn : h.get? h₁.objs.size = none := k₁.gone_ge (Nat.le_refl _)
  have hWn : h.get? h₂.objs.size = none := kk1.gone_ge (Nat.le_refl _)
  have hRW : h₁.objs.size ≠ h₂.objs.size := Nat.ne_of_lt l2.lt
  have own1 : ∀ b, F.own b → b < h₁.objs.size := fun b hb => F.lt hb
  have own2 : ∀ b, F.own b → b < h₂.objs.size := fun b hb => Nat.lt_trans (F.lt hb) l2.lt
  have nR : ∀ b, F.own b → h₁.objs.size ≠ b := fun b hb => Nat.ne_of_gt (own1 b hb)
  have nW : ∀ b, F.own b → h₂.objs.size ≠ b := fun b hb => Nat.ne_of_gt (own2 b hb)
  have lR : Ls h₇ h₁.objs.size [] := ((l2.kx ((k₃.trans k₄).trans k₅) fun h => h).kx k₆ (nR _ (.inl rfl))).kx k₇ (nR _ (.inl rfl))
  have lW : Ls h₇ h₂.objs.size [v] := ((l3.kx (k₄.trans k₅) fun h => h).kx k₆ (nW _ (.inl rfl))).kx k₇ (nW _ (.inl rfl))
  have hus0 : r₁.u = r₁.u := rfl
  refine x_while (fun n h' => ∃ m' cm', Fx _ m' cm' h' ∧ m' (Str.ofString "found") = some (.ref h₁.objs.size) ∧ m' (Str.ofString "waiting") = some (.ref h₂.objs.size) ∧ ∃ us rv st wv, Ls h' h₁.objs.size rv ∧ IsTs h' (onceT us) rv ∧
      Ls h' h₂.objs.size wv ∧ IsTs h' st wv ∧ (us ++ subsL st).Perm (subs t) ∧ n = (subsL st).length ∧ Kx Non h h') (subsL [t]).length
    ⟨_, _, F7, rfl, rfl, [], [], [t], [v], lR, by show IsTs h₇ [] []; rw [IsTs], lW, IsTs.single (hT.kx kk7), by simp [subsL], rfl, kk7⟩ ?_
  rintro n h8 tk8 ⟨m', cm', F8, e1, e2, us, rv, st, wv, lR, pr, lW, ist, hus, rfl, kk⟩
  have hul : us.length + (subsL st).length = (subs t).length := by rw [← hus.length_eq, List.length_append]
  have hrl : rv.length ≤ us.length := by rw [pr.length]; exact onceT_len us
  have hwl : wv.length = st.length := ist.length
  refine wpAny_isTrue_Compare1 (nm_L F8.ns e2 (e_nil fun h9 l9 k9 => ne_ls_nil r₁.units (lW.kx k9 fun h => h) l9 (wpAny_truthy_bool ?_)))
  cases wv using snoc_ind with
  | h0 =>
    simp only [List.isEmpty_nil, Bool.not_true, Bool.false_eq_true, if_false]
    have est : st = [] := List.length_eq_zero_iff.mp hwl.symm
    subst est
    have hus' : us.Perm (subs t) := by simpa [subsL] using hus
    have elen : rv.length = (onceT (subs t)).length := by
      rw [pr.length]
      exact nodup_len_eq (onceT_nodup _) (onceT_nodup _) fun x => by rw [mem_onceT, mem_onceT]; exact hus'.mem_iff
    refine x_ret (e_len ((kk.trans k9).bs B) (nm_L (F8.non k9).ns e1 (len_ls (lR.kx k9 fun h => h) (by omega) fun t9 tk9 => ?_)))
    rw [elen]
    exact hR h9 tk9 t9 (kk.trans k9)
  | h1 wv u _ =>
    have hne : (!(wv ++ [u]).isEmpty) = true := by simp
    rw [hne, if_pos rfl]
    obtain ⟨st', t', rfl, ist', it'⟩ := ist.unsnoc
    have hst : subsL (st' ++ [t']) = subsL st' ++ subs t' := by rw [subsL_append]; simp [subsL]
    rw [hst] at hus hul
    have hsl' : st'.length ≤ (subsL st').length := len_le_subsL st'
    have F9 := F8.non k9
    refine x_set (e_lmeth0 PySem.F.slot_list_pop PySem.F.type_list_pop (nm_L F9.ns e2 ⟨_, _, rfl, lW.kx k9 (fun h => h), call_pop (lW.kx k9 fun h => h) (by simp at hwl; rw [List.length_append] at hul; omega) fun h10 l10 k10 => ?_⟩))
    have F10 := F9.kx k10 fun b hb hm' => nW b hm' hb.symm
    refine st_L F10 fun h11 tk11 F11 k11 => ?_
    have m11 : Kx (fun b => F.own b ∨ b = h₁.objs.size ∨ b = h₂.objs.size) h8 h11 := (k9.ofNon.trans (k10.mono fun b hb => .inr (.inr hb))).trans (k11.mono fun b hb => .inl (.inl hb))
    have n11 : ∀ b, (F.own b ∨ b = h₁.objs.size ∨ b = h₂.objs.size) → h.get? b = none := fun b hb => hb.elim (hL1 b) fun hb => hb.elim (fun e => e ▸ hRn) fun e => e ▸ hWn
    have kk11 := kk.more m11 n11
    have lR11 : Ls h11 h₁.objs.size rv := ((lR.kx k9 fun h => h).kx k10 hRW).kx k11 (nR _ (.inl rfl))
    have lW11 : Ls h11 h₂.objs.size wv := l10.kx k11 (nW _ (.inl rfl))
    have it11 := it'.kx m11
    have pr11 := pr.kx m11
    obtain ⟨a, to, kvs, rfl, Ta, ik⟩ := it11.open
    have hkv : kvs.length ≤ 1000 := by
      have h1 := ik.length
      have h2 := len_le_subsL t'.kids
      have h3 := subs_kids t'
      rw [List.length_append] at hul
      omega
    have hhu : ∀ x ∈ onceT us, ht x ≤ 100 := fun x hx => by
      have := ht_sub t (hus.mem_iff.mp (List.mem_append_left _ ((mem_onceT us x).mp hx)))
      omega
    have hr0 := r₁.u
    refine x_if_join (fun s' => ∃ h13 tk13 rv' m' cm', s' = Sh s h13 tk13 ∧ Kx (fun b => F.own b ∨ b = h₁.objs.size ∨ b = h₂.objs.size) h11 h13 ∧ Fx F.env m' cm' h13 ∧ m' (Str.ofString "found") = some (.ref h₁.objs.size) ∧ m' (Str.ofString "waiting") = some (.ref h₂.objs.size) ∧
      m' (Str.ofString "here") = some (.ref a) ∧ Ls h13 h₁.objs.size rv' ∧ IsTs h13 (onceT (us ++ [t'])) rv' ∧ Ls h13 h₂.objs.size wv) ?_ ?_
    · refine wpAny_isTrue_Compare1 (nm_L F11.ns (v := .ref a) (if_pos rfl) (nm_L F11.ns (v := .ref h₁.objs.size) ((if_neg (by decide)).trans e1) (notIn_trees lR11 pr11 it11 (by omega) hhu (wpAny_truthy_bool ?_))))
      by_cases hin : t' ∈ onceT us
      · simp only [hin, decide_true, Bool.not_true, Bool.false_eq_true, if_false]
        refine wpAny_execs_nil (Q := _) ⟨rfl, h11, _, rv, (fun y => if y = Str.ofString "here" then some (.ref a) else m' y), cm', rfl, Kx.refl _ _, F11, (if_neg (by decide)).trans e1, (if_neg (by decide)).trans e2, if_pos rfl, lR11, ?_, lW11⟩
        rw [onceT_snoc]; unfold onceTStep; rw [if_pos hin]; exact pr11
      · simp only [hin, decide_false, Bool.not_false, if_true]
        refine x_expr (e_lmeth1 PySem.F.slot_list_append PySem.F.type_list_append (nm_L F11.ns (v := .ref h₁.objs.size) ((if_neg (by decide)).trans e1) ⟨_, _, rfl, lR11, nm_L F11.ns (v := .ref a) (if_pos rfl) (call_append lR11 (by omega) fun h13 l13 k13 => ⟨rfl, wpAny_execs_nil ⟨rfl, h13, _, _, (fun y => if y = Str.ofString "here" then some (.ref a) else m' y), cm', rfl, k13.mono (fun b hb => .inr (.inl hb)), F11.kx k13 (fun b hb hm' => nR b hm' hb.symm), (if_neg (by decide)).trans e1, (if_neg (by decide)).trans e2, if_pos rfl, l13, ?_, lW11.kx k13 (Ne.symm hRW)⟩⟩)⟩))
        rw [onceT_snoc]; unfold onceTStep; rw [if_neg hin]
        exact (pr11.kx k13).snoc (it11.kx k13)
    · rintro s' ⟨h13, tk13, rv', m3, cm3, rfl, k13, F13, e13, w13, x13, l13, p13, lW13⟩
      have Ta13 := Ta.kx k13
      refine x_expr (e_lmeth1 PySem.F.slot_list_extend PySem.F.type_list_extend (nm_L F13.ns w13 ⟨_, _, rfl, lW13, ?_⟩))
      refine e_tail (nm_L F13.ns x13 ⟨a, _, kvs, h13, _, rfl, rfl, Ta13, by omega, fun h15 c15 tk15 t15 n15 k15 => ?_⟩)
      refine call_extendT (lW13.kx k15 fun h => h) t15 (by simp at hwl; rw [List.length_append] at hul; omega) fun h16 l16 k16 => ⟨rfl, wpAny_execs_nil ⟨h16, _, (subsL (st' ++ t'.kids)).length, rfl, ?_, ?_⟩⟩
      · rw [hst, subsL_append, List.length_append, List.length_append, subs_kids]; omega
      · have F16 := (F13.non k15).kx k16 fun b hb hm' => nW b hm' hb.symm
        have m16 : Kx (fun b => F.own b ∨ b = h₁.objs.size ∨ b = h₂.objs.size) h11 h16 := (k13.trans k15.ofNon).trans (k16.mono fun b hb => .inr (.inr hb))
        refine ⟨_, _, F16, e13, w13, us ++ [t'], _, st' ++ t'.kids, _, (l13.kx k15 fun h => h).kx k16 hRW, (p13.kx k15).kx k16, l16, ?_, ?_, rfl, kk11.more m16 n11⟩
        · exact ((ist'.kx m11).kx m16).app (ik.kx m16)
        · refine List.Perm.trans ?_ hus
          rw [subsL_append]
          have e : subs t' = t' :: subsL t'.kids := by cases t' with | node op ks => rw [subs]; rfl
          rw [e, List.append_assoc]
          refine List.Perm.append_left us ?_
          show (t' :: (subsL st' ++ subsL t'.kids)).Perm _
          exact List.perm_middle.symm
end
end Mine

namespace Mine

theorem bk_makes (w : World) : makesIn (kf w.params) 198 = true := by k_is
theorem bk_get (w : World) : plainGet (kf w.params) 198 "x" = true := by k_is
theorem bk_dict (w : World) : hasDictIn (kf w.params) 198 = true := by k_is
theorem bk_over (w : World) : plainOver (kf w.params) 198 = true := by k_is
theorem bk_sa (w : World) : findIn (kf w.params) (.ref 198) "__setattr__" = some (some (.builtin "object.__setattr__")) := by k_is
theorem bk_nodes (w : World) : findIn (kf w.params) (.ref 198) (Str.ofString "nodes") = some none := by k_is
theorem bk_numbers (w : World) : findIn (kf w.params) (.ref 198) (Str.ofString "numbers") = some none := by k_is
theorem bk_weights (w : World) : findIn (kf w.params) (.ref 198) (Str.ofString "weights") = some none := by k_is
theorem bk_depths (w : World) : findIn (kf w.params) (.ref 198) (Str.ofString "depths") = some none := by k_is
theorem tk_nodes (w : World) : takerIn (kf w.params) 198 (Str.ofString "nodes") = some none := by k_is
theorem tk_numbers (w : World) : takerIn (kf w.params) 198 (Str.ofString "numbers") = some none := by k_is
theorem tk_weights (w : World) : takerIn (kf w.params) 198 (Str.ofString "weights") = some none := by k_is
theorem tk_depths (w : World) : takerIn (kf w.params) 198 (Str.ofString "depths") = some none := by k_is

section
variable {prog : Program} {w : World} {A : Around} {K : Frag} {s : Shared} {h : Heap} {tk : Nat} {E : Value → Shared → Prop} {x C dx : Addr} {ox : Obj}

/-- an attribute set in an instance's own dict -/
theorem set_inst {es es' : List DictEntry} {n n' : Nat} {name : Str} {v : Value} {Q : Unit → Shared → Prop} (X : K.In h) (I : InstAt h x ox C (some (dictOf es n))) (hd : ox.dict = some dx)
    (hs : findIn K (.ref C) "__setattr__" = some (some (.builtin "object.__setattr__"))) (hp : plainOver K C = true) (ht : takerIn K C name = some none) (hh : hasDictIn K C = true) (hl : (getL name es).isSome = true)
    (e : putL name (PyData.keyHash w.params name) (.str name (tk + 1)) v es = es') (e' : putN name es n = n') (hz : es'.length ≤ 1000)
    (hQ : ∀ h', h'.get? dx = some (dictOf es' n') → Kx (· = dx) h h' → Q () (Sh s h' (tk + 2))) :
    wpAny (model prog w) A (setAttr (.ref x) name v) Q E (Sh s h tk) := by
  refine set_plain (s := Sh s h tk) X I hs ?_
  refine osa_open (s := Sh s h (tk + 1)) X I hp ht fun b => ?_
  obtain ⟨cd, hc, hd'⟩ := any_some hh
  obtain ⟨hx, hcl, hn, hD⟩ := I
  obtain ⟨oc, odi, oda, osl⟩ := ox
  dsimp only at hcl hd
  subst hcl hd
  have D : h.get? dx = some (dictOf es n) := hD
  have D' : (h.update dx (Obj.putName name (PyData.keyHash w.params name) (.str name (tk + 1)) v)).get? dx = some (dictOf es' n') := by
    have := Heap.get?_update_self (Obj.putName name (PyData.keyHash w.params name) (.str name (tk + 1)) v) D (by rw [putName_dict]; rfl)
    rw [putName_dict, e, e'] at this
    exact this
  refine wpAny_bind (wpAny_pure (wpAny_bind (wpAny_bind (wpAny_loadPart hx (wpAny_bind ((looks_clsIn X hc).here ?_))))))
  rw [hd']
  refine wpAny_pure (a := some dx) (wpAny_bind (wpAny_pure (wpAny_bind ?_)))
  unfold nsSet
  refine wpAny_bind (wpAny_bind (wpAny_askSetting (wpAny_pure (wpAny_bind (wpAny_mkText (wpAny_bind (wpAny_loadPart D ?_)))))))
  have c : (!es.toArray.any (·.key.isStr name) && es.toArray.any (·.refKey)) = false := by
    rw [List.any_toArray, List.any_toArray]
    unfold getL at hl
    split at hl
    · rename_i en he
      rw [List.any_eq_true.mpr ⟨en, List.mem_of_find?_eq_some he, List.find?_some he⟩]; rfl
    · split at hl
      · cases hl
      · rename_i z; rw [Bool.not_eq_true] at z; rw [z, Bool.and_false]
  dsimp only
  rw [aRefKeyMayBeTheName_at, c]
  refine wpAny_updatePart D ?_
  refine wpAny_bind (wpAny_lookBehind D' (by exact pastItsLine_dict (by rw [List.size_toArray, sizeLine_eq]; omega)) ?_)
  refine wpAny_pure (hQ _ D' (Kx.same (Heap.SameBut.update ..) ?_))
  exact not_tp_of_cls D (by show Value.type "dict" ≠ Value.type "tuple"; decide)
end

/-- a bank -/
abbrev bkEs (x1 x2 x3 x4 : Int) (t1 t2 t3 t4 : Tok) (an am aw ad : Addr) : List DictEntry :=
  [⟨x1, .str (Str.ofString "nodes") t1, .ref an⟩, ⟨x2, .str (Str.ofString "numbers") t2, .ref am⟩, ⟨x3, .str (Str.ofString "weights") t3, .ref aw⟩, ⟨x4, .str (Str.ofString "depths") t4, .ref ad⟩]
structure BkAt (h : Heap) (b dx an am aw ad : Addr) : Prop where
  inst : h.get? b = some (instObj 198 dx)
  dict : ∃ x1 x2 x3 x4 t1 t2 t3 t4 n, h.get? dx = some (dictOf (bkEs x1 x2 x3 x4 t1 t2 t3 t4 an am aw ad) n)
theorem BkAt.kx {P : Addr → Prop} {h h' : Heap} {b dx an am aw ad : Addr} (x : BkAt h b dx an am aw ad) (k : Kx P h h') (hb : ¬ P b) (hd : ¬ P dx) : BkAt h' b dx an am aw ad :=
  ⟨k.k b _ hb x.inst, let ⟨x1, x2, x3, x4, t1, t2, t3, t4, n, e⟩ := x.dict; ⟨x1, x2, x3, x4, t1, t2, t3, t4, n, k.k dx _ hd e⟩⟩
theorem BkAt.ltb {h : Heap} {b dx an am aw ad : Addr} (x : BkAt h b dx an am aw ad) : b < h.objs.size := Heap.lt_size x.inst
theorem BkAt.ltd {h : Heap} {b dx an am aw ad : Addr} (x : BkAt h b dx an am aw ad) : dx < h.objs.size := let ⟨_, _, _, _, _, _, _, _, _, e⟩ := x.dict; Heap.lt_size e

section
variable {w : World} {A : Around} {s : Shared} {h : Heap} {tk : Nat} {h0 : Heap} {R : Result → Shared → Prop} {E : Value → Shared → Prop} {env : Env} {b dx an am aw ad : Addr}

theorem get_nodes {Q : Value → Shared → Prop} {ex : Bool} (B : Bs (kf w.params) h0 h) (K : BkAt h b dx an am aw ad) (hQ : ∀ tk', Q (.ref an) (Sh s h tk')) : wpAny (model prg w) A (getAttr (.ref b) (Str.ofString "nodes") ex) Q E (Sh s h tk) := by
  obtain ⟨x1, x2, x3, x4, t1, t2, t3, t4, n, e⟩ := K.dict
  exact get_value (K := kf w.params) (s := Sh s h tk) (C := 198) (ox := instObj 198 dx) (od := some (dictOf (bkEs x1 x2 x3 x4 t1 t2 t3 t4 an am aw ad) n)) B.inK ⟨K.inst, rfl, rfl, e⟩ (plainGet_of (bk_get w)).1
    (findObj_own (v := .ref an) (bk_dict w) (bk_nodes w) rfl rfl) rfl (hQ _)
theorem get_numbers {Q : Value → Shared → Prop} {ex : Bool} (B : Bs (kf w.params) h0 h) (K : BkAt h b dx an am aw ad) (hQ : ∀ tk', Q (.ref am) (Sh s h tk')) : wpAny (model prg w) A (getAttr (.ref b) (Str.ofString "numbers") ex) Q E (Sh s h tk) := by
  obtain ⟨x1, x2, x3, x4, t1, t2, t3, t4, n, e⟩ := K.dict
  exact get_value (K := kf w.params) (s := Sh s h tk) (C := 198) (ox := instObj 198 dx) (od := some (dictOf (bkEs x1 x2 x3 x4 t1 t2 t3 t4 an am aw ad) n)) B.inK ⟨K.inst, rfl, rfl, e⟩ (plainGet_of (bk_get w)).1
    (findObj_own (v := .ref am) (bk_dict w) (bk_numbers w) rfl rfl) rfl (hQ _)
theorem get_weights {Q : Value → Shared → Prop} {ex : Bool} (B : Bs (kf w.params) h0 h) (K : BkAt h b dx an am aw ad) (hQ : ∀ tk', Q (.ref aw) (Sh s h tk')) : wpAny (model prg w) A (getAttr (.ref b) (Str.ofString "weights") ex) Q E (Sh s h tk) := by
  obtain ⟨x1, x2, x3, x4, t1, t2, t3, t4, n, e⟩ := K.dict
  exact get_value (K := kf w.params) (s := Sh s h tk) (C := 198) (ox := instObj 198 dx) (od := some (dictOf (bkEs x1 x2 x3 x4 t1 t2 t3 t4 an am aw ad) n)) B.inK ⟨K.inst, rfl, rfl, e⟩ (plainGet_of (bk_get w)).1
    (findObj_own (v := .ref aw) (bk_dict w) (bk_weights w) rfl rfl) rfl (hQ _)
theorem get_depths {Q : Value → Shared → Prop} {ex : Bool} (B : Bs (kf w.params) h0 h) (K : BkAt h b dx an am aw ad) (hQ : ∀ tk', Q (.ref ad) (Sh s h tk')) : wpAny (model prg w) A (getAttr (.ref b) (Str.ofString "depths") ex) Q E (Sh s h tk) := by
  obtain ⟨x1, x2, x3, x4, t1, t2, t3, t4, n, e⟩ := K.dict
  exact get_value (K := kf w.params) (s := Sh s h tk) (C := 198) (ox := instObj 198 dx) (od := some (dictOf (bkEs x1 x2 x3 x4 t1 t2 t3 t4 an am aw ad) n)) B.inK ⟨K.inst, rfl, rfl, e⟩ (plainGet_of (bk_get w)).1
    (findObj_own (v := .ref ad) (bk_dict w) (bk_depths w) rfl rfl) rfl (hQ _)

def NoOwn (name : Str) : Prop := ∀ x1 x2 x3 x4 t1 t2 t3 t4 an am aw ad n, shadowIn (some (dictOf (bkEs x1 x2 x3 x4 t1 t2 t3 t4 an am aw ad) n)) name = some false
/-- a method of a bank's -/
theorem get_meth {name : Str} {f : Addr} {pl : Sem Bool} {Q : Value × List Value → Shared → Prop} (hf : findIn (kf w.params) (.ref 198) name = some (some (.ref f))) (ht : typeIn (kf w.params) (.ref f) = some (.type "function")) (ho : NoOwn name)
    (B : Bs (kf w.params) h0 h) (K : BkAt h b dx an am aw ad) (hQ : Q (.ref f, [.ref b]) (Sh s h tk)) : wpAny (model prg w) A (getMethod (.ref b) name pl) Q E (Sh s h tk) := by
  obtain ⟨x1, x2, x3, x4, t1, t2, t3, t4, n, e⟩ := K.dict
  exact method_fn (K := kf w.params) (s := Sh s h tk) (C := 198) (ox := instObj 198 dx) (od := some (dictOf (bkEs x1 x2 x3 x4 t1 t2 t3 t4 an am aw ad) n)) B.inK ⟨K.inst, rfl, rfl, e⟩ (plainGet_of (bk_get w)).1 (plainGet_of (bk_get w)).2 hf ht (ho ..) hQ

theorem e_meth {pl : Sem Bool} {o e : Expr} {rest : List Expr} {name : Str} {apos pos : Pos} {f : Addr} {Q : Value → Shared → Prop} {st : Shared} (hf : findIn (kf w.params) (.ref 198) name = some (some (.ref f))) (ht : typeIn (kf w.params) (.ref f) = some (.type "function")) (ho : NoOwn name)
    (hk : keepIn (kf w.params) (.ref f) = true)
    (hh : wpAny (model prg w) A (eval o env) (fun ov s₁ => ∃ b dx an am aw ad h₁ tk₁, ov = .ref b ∧ s₁ = Sh s h₁ tk₁ ∧ BkAt h₁ b dx an am aw ad ∧ Bs (kf w.params) h0 h₁ ∧
      wpAny (model prg w) A (spliced (backTo pos (starEach (e :: rest) env))) (fun vs s₂ => Bs (kf w.params) h0 s₂.heap ∧ wpAny (model prg w) A (call (.ref f) (.ref b :: vs)) Q E s₂) E s₁) E st)
    (hn : eval (.Call (.Attribute o name apos) (e :: rest) [] pos) env = (do
      let ov ← eval o env
      standAt apos.atName
      let (f, first) ← holding [ov] (getMethod ov name pl)
      callWith pos f first (backTo pos (starEach (e :: rest) env)) []) := by rfl)
    (he : starEach (e :: rest) env = (false, eval e env) :: starEach rest env := by rfl) (hplain : (backTo pos (starEach rest env)).any (·.1) = false := by rfl) :
    wpAny (model prg w) A (eval (.Call (.Attribute o name apos) (e :: rest) [] pos) env) Q E st := by
  refine MethodCall_ (pl := pl) (wpAny_mono hh (fun ov s₁ ⟨b, dx, an, am, aw, ad, h₁, tk₁, e1, e2, K, B, x⟩ => ?_) fun _ _ z => z) hn
  subst e1 e2
  refine get_meth hf ht ho B K ?_
  exact callWith_K (h₀ := h₁) B.inK hk (wpAny_mono x (fun vs s₂ ⟨B2, y⟩ => ⟨B2.inK, y⟩) fun _ _ z => z) he hplain
theorem e_meth0 {pl : Sem Bool} {o : Expr} {name : Str} {apos pos : Pos} {f : Addr} {Q : Value → Shared → Prop} {st : Shared} (hf : findIn (kf w.params) (.ref 198) name = some (some (.ref f))) (ht : typeIn (kf w.params) (.ref f) = some (.type "function")) (ho : NoOwn name)
    (hk : keepIn (kf w.params) (.ref f) = true)
    (hh : wpAny (model prg w) A (eval o env) (fun ov s₁ => ∃ b dx an am aw ad h₁ tk₁, ov = .ref b ∧ s₁ = Sh s h₁ tk₁ ∧ BkAt h₁ b dx an am aw ad ∧ Bs (kf w.params) h0 h₁ ∧
      wpAny (model prg w) A (call (.ref f) [.ref b]) Q E s₁) E st)
    (hn : eval (.Call (.Attribute o name apos) [] [] pos) env = (do
      let ov ← eval o env
      standAt apos.atName
      let (f, first) ← holding [ov] (getMethod ov name pl)
      callWith pos f first (backTo pos (starEach [] env)) []) := by rfl) :
    wpAny (model prg w) A (eval (.Call (.Attribute o name apos) [] [] pos) env) Q E st := by
  refine MethodCall_ (pl := pl) (wpAny_mono hh (fun ov s₁ ⟨b, dx, an, am, aw, ad, h₁, tk₁, e1, e2, K, B, x⟩ => ?_) fun _ _ z => z) hn
  subst e1 e2
  exact get_meth hf ht ho B K (callWith_K0 (s := Sh s h₁ tk₁) B.inK hk x)
theorem no_size : NoOwn (Str.ofString "size") := fun _ _ _ _ _ _ _ _ _ _ _ _ _ => rfl
end
end Mine

namespace Mine

abbrev Ky := Str ⊕ Int
def kyIs : Ky → Value → Bool
  | .inl x, v => Value.isStrOf x v
  | .inr n, v => Value.isInt n v
theorem kyIs_shape {k : Ky} {v : Value} (h : kyIs k v = true) : ∃ t, v = (match k with | .inl x => .str x t | .inr n => .int n t) := by
  cases k with
  | inl x => obtain ⟨t, e⟩ := Value.isStrOf_shape h; exact ⟨t, e⟩
  | inr n => obtain ⟨t, e⟩ := Value.isInt_shape h; exact ⟨t, e⟩
/-- keys that are texts or ints -/
def mix (w : World) : KeyKind prg w Ky where
  is := kyIs
  hash := fun k => match k with | .inl x => hashStr w x | .inr n => hashInt n
  inj := fun v a b ha hb => by
    obtain ⟨t, e⟩ := kyIs_shape ha
    obtain ⟨u, e'⟩ := kyIs_shape hb
    cases a <;> cases b <;> simp_all
  byValue := fun k v h => by obtain ⟨t, rfl⟩ := kyIs_shape h; cases k <;> rfl
  pyHash := fun {A E s k v Q} hv h => by
    obtain ⟨t, rfl⟩ := kyIs_shape hv
    cases k with
    | inl x => exact wpAny_pyHash_str h
    | inr n => exact wpAny_pyHash_int h
  eqBool := fun {A E s a b u v Q} hu hv h => by
    obtain ⟨t, rfl⟩ := kyIs_shape hu
    obtain ⟨t', rfl⟩ := kyIs_shape hv
    cases a with
    | inl x =>
      cases b with
      | inl y => exact wpAny_eqBool_str (by simpa using h)
      | inr n => exact SeqAt.EqAt.str_int x t n t' prg w E Q (by simpa using h)
    | inr n =>
      cases b with
      | inl y => exact SeqAt.EqAt.int_str n t y t' prg w E Q (by simpa using h)
      | inr m => exact MeetsSeq.EqGives.int n m t t' prg w A E s Q (by
          have e : decide ((Sum.inr n : Ky) = Sum.inr m) = (n == m) := by rw [Bool.eq_iff_iff]; simp
          rw [← e]; exact h)
  «strs» := fun k x t v h => by
    obtain ⟨u, e⟩ := kyIs_shape h
    cases k with
    | inl y => injection e with e; subst e; cases v <;> rfl
    | inr n => cases e

/-- the place of a term in a bank -/
def idx (tr : List Tree) (t : Tree) : Nat := tr.idxOf t
theorem idx_lt {tr : List Tree} {t : Tree} (h : t ∈ tr) : idx tr t < tr.length := List.idxOf_lt_length_iff.mpr h
theorem idx_get {tr : List Tree} {t : Tree} (h : t ∈ tr) : tr[idx tr t]? = some t := by
  rw [List.getElem?_eq_getElem (idx_lt h)]
  exact congrArg some (List.getElem_idxOf (idx_lt h))
theorem idx_inj {tr : List Tree} {t u : Tree} (ht : t ∈ tr) (hu : u ∈ tr) (e : idx tr t = idx tr u) : t = u := by
  have h1 := idx_get ht
  have h2 := idx_get hu
  rw [e, h2] at h1
  exact (Option.some.inj h1).symm
theorem idx_app {tr ex : List Tree} {t : Tree} (h : t ∈ tr) : idx (tr ++ ex) t = idx tr t := by
  unfold idx; rw [List.idxOf_append, if_pos h]
theorem idx_new {tr : List Tree} {t : Tree} (h : t ∉ tr) : idx (tr ++ [t]) t = tr.length := by
  unfold idx; rw [List.idxOf_append, if_neg h]; simp
theorem idx_at {tr : List Tree} (hn : tr.Nodup) {i : Nat} {t : Tree} (e : tr[i]? = some t) : idx tr t = i := by
  have hm : t ∈ tr := List.mem_of_getElem? e
  have h1 := idx_get hm
  have hi : i < tr.length := (List.getElem?_eq_some_iff.mp e).1
  exact ((List.getElem?_inj hi hn).mp (e.trans h1.symm)).symm
def keyOf (tr : List Tree) (t : Tree) : List Ky := .inl t.op :: t.kids.map fun k => .inr (idx tr k : Nat)
theorem keyOf_inj {tr : List Tree} {t u : Tree} (ht : ∀ k ∈ t.kids, k ∈ tr) (hu : ∀ k ∈ u.kids, k ∈ tr) (e : keyOf tr t = keyOf tr u) : t = u := by
  cases t with
  | node a ks =>
    cases u with
    | node b ls =>
      unfold keyOf at e
      injection e with e1 e2
      injection e1 with e1
      have e1' : a = b := e1
      subst e1'
      have : ks = ls := by
        have key : ∀ {ks ls : List Tree}, (∀ k ∈ ks, k ∈ tr) → (∀ k ∈ ls, k ∈ tr) → (ks.map fun k => (Sum.inr ((idx tr k : Nat) : Int) : Ky)) = ls.map (fun k => Sum.inr ((idx tr k : Nat) : Int)) → ks = ls := by
          intro ks
          induction ks with
          | nil => intro ls _ _ e; cases ls with
            | nil => rfl
            | cons l ls => simp at e
          | cons k ks ih =>
            intro ls h1 h2 e
            cases ls with
            | nil => simp at e
            | cons l ls =>
              rw [List.map_cons, List.map_cons] at e
              injection e with e1 e2
              injection e1 with e1
              have e3 : idx tr k = idx tr l := by omega
              have e4 := idx_inj (h1 k List.mem_cons_self) (h2 l List.mem_cons_self) e3
              rw [e4, ih (fun x hx => h1 x (List.mem_cons_of_mem _ hx)) (fun x hx => h2 x (List.mem_cons_of_mem _ hx)) e2]
        exact key ht hu e2
      rw [this]
theorem keyOf_app {tr ex : List Tree} {t : Tree} (h : ∀ k ∈ t.kids, k ∈ tr) : keyOf (tr ++ ex) t = keyOf tr t := by
  unfold keyOf
  congr 1
  refine List.map_congr_left fun k hk => ?_
  rw [idx_app (h k hk)]

/-- the terms of a bank: each once, behind its kids -/
structure TrOk (tr : List Tree) : Prop where
  nd : tr.Nodup
  kids : ∀ i t, tr[i]? = some t → ∀ k ∈ t.kids, k ∈ tr.take i
theorem TrOk.mem {tr : List Tree} (o : TrOk tr) {t : Tree} (h : t ∈ tr) : ∀ k ∈ t.kids, k ∈ tr := fun k hk => by
  obtain ⟨i, hi⟩ := List.mem_iff_getElem?.mp h
  exact List.mem_of_mem_take (o.kids i t hi k hk)
theorem TrOk.kid_lt {tr : List Tree} (o : TrOk tr) {t : Tree} (h : t ∈ tr) : ∀ k ∈ t.kids, idx tr k < idx tr t := fun k hk => by
  have h1 := o.kids _ t (idx_get h) k hk
  obtain ⟨j, hj⟩ := List.mem_iff_getElem?.mp h1
  rw [List.getElem?_take] at hj
  split at hj
  · rename_i hlt; rw [idx_at o.nd hj]; exact hlt
  · cases hj
theorem TrOk.nil : TrOk [] := ⟨List.nodup_nil, fun i t e => by simp at e⟩
theorem TrOk.snoc {tr : List Tree} {t : Tree} (o : TrOk tr) (hn : t ∉ tr) (hk : ∀ k ∈ t.kids, k ∈ tr) : TrOk (tr ++ [t]) := by
  refine ⟨?_, fun i u e k hk' => ?_⟩
  · rw [List.nodup_append]
    exact ⟨o.nd, by simp, fun a ha b hb => by rw [List.mem_singleton.mp hb]; rintro rfl; exact hn ha⟩
  · by_cases hi : i < tr.length
    · rw [List.getElem?_append_left hi] at e
      rw [List.take_append_of_le_length (by omega)]
      exact o.kids i u e k hk'
    · have hi' : i = tr.length := by
        have := (List.getElem?_eq_some_iff.mp e).1
        simp at this; omega
      subst hi'
      simp at e
      subst e
      rw [List.take_left]
      exact hk k hk'

/-- a node's tuple -/
def NodeV (h : Heap) (tr : List Tree) (t : Tree) (v : Value) : Prop := ∃ a to is, v = .ref a ∧ Tp h a (.str t.op to :: is) ∧ Paired (fun k v => ∃ u, v = Value.int (idx tr k : Nat) u) t.kids is
theorem NodeV.kx {P : Addr → Prop} {h h' : Heap} {tr : List Tree} {t : Tree} {v : Value} (x : NodeV h tr t v) (k : Kx P h h') : NodeV h' tr t v := by
  obtain ⟨a, to, is, e, T, p⟩ := x; exact ⟨a, to, is, e, T.kx k, p⟩
theorem Paired.mem_imp {α β : Type} {F G : α → β → Prop} {l : List α} {k : List β} (x : Paired F l k) (h : ∀ a b, a ∈ l → F a b → G a b) : Paired G l k := by
  induction x with
  | nil => exact .nil
  | cons a _ ih => exact .cons (h _ _ List.mem_cons_self a) (ih fun a b ha => h a b (List.mem_cons_of_mem _ ha))
theorem NodeV.app {h : Heap} {tr ex : List Tree} {t : Tree} {v : Value} (x : NodeV h tr t v) (hk : ∀ k ∈ t.kids, k ∈ tr) : NodeV h (tr ++ ex) t v := by
  obtain ⟨a, to, is, e, T, p⟩ := x
  exact ⟨a, to, is, e, T, Paired.mem_imp p fun k v hk' ⟨u, e⟩ => ⟨u, by rw [idx_app (hk k hk')]; exact e⟩⟩
theorem NodeV.key {w : World} {h : Heap} {tr : List Tree} {t : Tree} {a : Addr} (x : NodeV h tr t (.ref a)) : IsTupleKey (mix w) h (keyOf tr t) a := by
  obtain ⟨a', to, is, e, ⟨n, ho⟩, p⟩ := x
  cases e
  refine ⟨_, _, n, ho, rfl, rfl, ?_⟩
  show ItemsAre (mix w) _ (Value.str t.op to :: is)
  refine .cons (by simp [mix, kyIs, Value.isStrOf]) ?_
  have all : ∀ {ks : List Tree} {is : List Value}, Paired (fun k v => ∃ u, v = Value.int (idx tr k : Nat) u) ks is → ItemsAre (mix w) (ks.map fun k => .inr (idx tr k : Nat)) is := by
    intro ks is p
    induction p with
    | nil => exact .nil
    | cons h _ ih =>
      obtain ⟨u, rfl⟩ := h
      exact .cons (by simp [mix, kyIs, Value.isInt]) ih
  exact all p

/-- the numbers' dict -/
def NumAt (w : World) (h : Heap) (am : Addr) (tr : List Tree) (nv : List Value) : Prop :=
  ∃ es ep xs, h.get? am = some { cls := .type "dict", data := .dict es ep } ∧ es.toList = List.map (entryOfKey (tupleKind (mix w))) xs ∧ xs.map (·.1) = tr.map (keyOf tr) ∧ (xs.map fun x => Value.ref x.2.1) = nv ∧
    ∀ (i : Nat) x, xs[i]? = some x → ∃ u, x.2.2 = Value.int (i : Nat) u
structure Nums (w : World) (h : Heap) (am : Addr) (tr : List Tree) (nv : List Value) (xs : List (List Ky × Addr × Value)) : Prop where
  dict : h.DictOfH (tupleKind (mix w)) am xs
  keys : xs.map (·.1) = tr.map (keyOf tr)
  refs : (xs.map fun x => Value.ref x.2.1) = nv
  vals : ∀ (i : Nat) x, xs[i]? = some x → ∃ u, x.2.2 = Value.int (i : Nat) u
theorem map_nodup {α β : Type} {f : α → β} : ∀ {l : List α}, l.Nodup → (∀ a ∈ l, ∀ b ∈ l, f a = f b → a = b) → (l.map f).Nodup
  | [], _, _ => List.nodup_nil
  | a :: l, hn, hf => by
    have hn' := List.nodup_cons.mp hn
    rw [List.map_cons, List.nodup_cons]
    refine ⟨fun hm => ?_, map_nodup hn'.2 fun x hx y hy => hf x (List.mem_cons_of_mem _ hx) y (List.mem_cons_of_mem _ hy)⟩
    obtain ⟨b, hb, e⟩ := List.mem_map.mp hm
    have := hf b (List.mem_cons_of_mem _ hb) a List.mem_cons_self e
    exact hn'.1 (this ▸ hb)
theorem NumAt.open {w : World} {h : Heap} {am : Addr} {tr : List Tree} {nv : List Value} (x : NumAt w h am tr nv) (o : TrOk tr) (p : Paired (NodeV h tr) tr nv) : ∃ xs, Nums w h am tr nv xs := by
  obtain ⟨es, ep, xs, ho, he, hk, hr, hv⟩ := x
  refine ⟨xs, ⟨_, es, ep, ho, ⟨rfl, rfl, rfl⟩, rfl, he, fun x hx => ?_, ?_⟩, hk, hr, hv⟩
  · obtain ⟨i, hi⟩ := List.mem_iff_getElem?.mp hx
    have e1 : nv[i]? = some (.ref x.2.1) := by rw [← hr, List.getElem?_map, hi]; rfl
    obtain ⟨t, ht, nvx⟩ := Paired.get' p e1
    have e2 : some x.1 = some (keyOf tr t) := by
      have h1 : (xs.map (·.1))[i]? = some x.1 := by rw [List.getElem?_map, hi]; rfl
      have h2 : (tr.map (keyOf tr))[i]? = some (keyOf tr t) := by rw [List.getElem?_map, ht]; rfl
      rw [← h1, ← h2, hk]
    rw [Option.some.inj e2]
    exact nvx.key
  · rw [hk]
    exact map_nodup o.nd fun a ha b hb e => keyOf_inj (o.mem ha) (o.mem hb) e
theorem Nums.close {w : World} {h : Heap} {am : Addr} {tr : List Tree} {nv : List Value} {xs : List (List Ky × Addr × Value)} (x : Nums w h am tr nv xs) : NumAt w h am tr nv := by
  obtain ⟨⟨o, es, ep, ho, hc, hd, he, _, _⟩, hk, hr, hv⟩ := x
  obtain ⟨oc, od, oda, osl⟩ := o
  obtain ⟨h1, h2, h3⟩ := hc
  simp only at h1 h2 h3 hd
  subst h1 h2 h3 hd
  exact ⟨es, ep, xs, ho, he, hk, hr, hv⟩
theorem NumAt.kx {w : World} {P : Addr → Prop} {h h' : Heap} {am : Addr} {tr : List Tree} {nv : List Value} (x : NumAt w h am tr nv) (k : Kx P h h') (hm : ¬ P am) : NumAt w h' am tr nv :=
  let ⟨es, ep, xs, ho, r⟩ := x; ⟨es, ep, xs, k.k am _ hm ho, r⟩

structure Bank (w : World) (h0 h : Heap) (b dx an am aw ad : Addr) (tr : List Tree) : Prop where
  bk : BkAt h b dx an am aw ad
  ok : TrOk tr
  nodes : ∃ nv, Ls h an nv ∧ Paired (NodeV h tr) tr nv ∧ NumAt w h am tr nv
  weights : ∃ wv, Ls h aw wv ∧ AllInt wv ∧ wv.length = tr.length
  depths : ∃ dv, Ls h ad dv ∧ AllInt dv ∧ dv.length = tr.length
  apart : [b, dx, an, am, aw, ad].Nodup
  off : ∀ c ∈ [b, dx, an, am, aw, ad], h0.get? c = none
  notSys : (am == sysModules) = false
theorem Bank.kx {w : World} {P : Addr → Prop} {h0 h h' : Heap} {b dx an am aw ad : Addr} {tr : List Tree} (x : Bank w h0 h b dx an am aw ad tr) (k : Kx P h h') (hP : ∀ c ∈ [b, dx, an, am, aw, ad], ¬ P c) : Bank w h0 h' b dx an am aw ad tr where
  bk := x.bk.kx k (hP b (by simp)) (hP dx (by simp))
  ok := x.ok
  nodes := let ⟨nv, l, p, m⟩ := x.nodes; ⟨nv, l.kx k (hP an (by simp)), Paired.mono' p fun _ _ y => y.kx k, m.kx k (hP am (by simp))⟩
  weights := let ⟨wv, l, r⟩ := x.weights; ⟨wv, l.kx k (hP aw (by simp)), r⟩
  depths := let ⟨wv, l, r⟩ := x.depths; ⟨wv, l.kx k (hP ad (by simp)), r⟩
  apart := x.apart
  off := x.off
  notSys := x.notSys
theorem Bank.non {w : World} {h0 h h' : Heap} {b dx an am aw ad : Addr} {tr : List Tree} (x : Bank w h0 h b dx an am aw ad tr) (k : Kx Non h h') : Bank w h0 h' b dx an am aw ad tr := x.kx k fun _ _ h => h
theorem Bank.lt {w : World} {h0 h : Heap} {b dx an am aw ad : Addr} {tr : List Tree} (x : Bank w h0 h b dx an am aw ad tr) : ∀ c ∈ [b, dx, an, am, aw, ad], c < h.objs.size := by
  intro c hc
  simp only [List.mem_cons, List.not_mem_nil, or_false] at hc
  rcases hc with rfl | rfl | rfl | rfl | rfl | rfl
  · exact x.bk.ltb
  · exact x.bk.ltd
  · obtain ⟨nv, l, _⟩ := x.nodes; exact l.lt
  · obtain ⟨nv, _, _, es, ep, xs, ho, _⟩ := x.nodes; exact Heap.lt_size ho
  · obtain ⟨nv, l, _⟩ := x.weights; exact l.lt
  · obtain ⟨nv, l, _⟩ := x.depths; exact l.lt
end Mine

namespace Mine

section
variable {w : World} {A : Around} {s : Shared} {h : Heap} {tk : Nat} {h0 : Heap} {R : Result → Shared → Prop} {E : Value → Shared → Prop} {env : Env} {b dx an am aw ad : Addr} {tr : List Tree}

def intAt (vs : List Value) (i : Nat) : Int := match vs[i]? with | some (.int n _) => n | _ => 0
theorem AllInt.at {vs : List Value} (hv : AllInt vs) {i : Nat} {v : Value} (e : vs[i]? = some v) : ∃ t, v = .int (intAt vs i) t := by
  obtain ⟨n, t, rfl⟩ := hv v (List.mem_of_getElem? e)
  exact ⟨t, by unfold intAt; rw [e]⟩
theorem call_sum {a : Addr} {vs : List Value} {Q : Value → Shared → Prop} (hh : A.handled = none) (T : Ls h a vs) (hv : AllInt vs) (hQ : ∀ h' tk' n t, Kx Non h h' → Q (.int n t) (Sh s h' tk')) :
    wpAny (model prg w) A (call (.builtin "sum") [.ref a]) Q E (Sh s h tk) := by
  refine call_sum_walkAnyS (wpAny_pyIter_list T.isList ?_)
  have hne : a ≠ h.objs.size := Nat.ne_of_lt T.lt
  refine ⟨h.objs.size, _, _, _, _, _, _, intAt vs, rfl, (Walks.list (A := A.in1) hh h.objs.size a hne vs.toArray).toS, ⟨⟨_, Heap.get?_push_size _ rfl, rfl, rfl⟩, T.isList.push _⟩, fun c hc => ?_, fun i v e => hv.at (by simpa using e), fun s' t' hm => ?_⟩
  · show c < (h.push _).objs.size
    rw [Heap.size_push]
    simp only [List.mem_cons, List.not_mem_nil, or_false] at hc
    rcases hc with rfl | rfl
    · exact Nat.lt_succ_self _
    · exact Nat.lt_succ_of_lt T.lt
  · rw [Moved.eq_with hm]
    refine hQ s'.heap s'.toks _ t' (.ofAll fun c o e => hm.heap c o (fun hc => ?_) (Heap.get?_push_of_some _ e))
    rw [List.mem_singleton.mp hc] at e
    exact absurd (Heap.lt_size e) (Nat.lt_irrefl _)
theorem call_max {a : Addr} {vs : List Value} {Q : Value → Shared → Prop} (hh : A.handled = none) (T : Ls h a vs) (hv : AllInt vs) (hne0 : 0 < vs.length) (hQ : ∀ h' tk' n t, Kx Non h h' → Q (.int n t) (Sh s h' tk')) :
    wpAny (model prg w) A (call (.builtin "max") [.ref a]) Q E (Sh s h tk) := by
  refine call_max_walkS (wpAny_pyIter_list T.isList ?_)
  have hne : a ≠ h.objs.size := Nat.ne_of_lt T.lt
  refine ⟨h.objs.size, _, _, _, _, _, _, _, rfl, (Walks.list (A := A.in1) hh h.objs.size a hne vs.toArray).toS, ⟨⟨_, Heap.get?_push_size _ rfl, rfl, rfl⟩, T.isList.push _⟩, fun c hc => ?_, by simpa using hne0, CmpOf.ints_gt (intAt vs) (fun i v e => hv.at (by simpa using e)), fun v s' hP hm => ?_⟩
  · show c < (h.push _).objs.size
    rw [Heap.size_push]
    simp only [List.mem_cons, List.not_mem_nil, or_false] at hc
    rcases hc with rfl | rfl
    · exact Nat.lt_succ_self _
    · exact Nat.lt_succ_of_lt T.lt
  · obtain ⟨t, rfl⟩ := hv.at (by simpa using hP)
    rw [Moved.eq_with hm]
    refine hQ s'.heap s'.toks _ t (.ofAll fun c o e => hm.heap c o (fun hc => ?_) (Heap.get?_push_of_some _ e))
    rw [List.mem_singleton.mp hc] at e
    exact absurd (Heap.lt_size e) (Nat.lt_irrefl _)

/-- an attribute of a name -/
theorem e_attr {x attr : Str} {p1 p2 : Pos} {Q : Value → Shared → Prop} {st : Shared} (hh : wpAny (model prg w) A (eval (.Name x p1) env) (fun o s₁ => wpAny (model prg w) A (getAttr o attr true) Q E s₁) E st)
    (he : eval (.Attribute (.Name x p1) attr p2) env = (do
      let o ← eval (.Name x p1) env
      standAt p2.atName
      let r ← holding [o] (getAttr o attr true)
      letTemporaryGo (.Name x p1) o r
      pure r) := by with_unfolding_all rfl) : wpAny (model prg w) A (eval (.Attribute (.Name x p1) attr p2) env) Q E st := Attribute_any_ hh he

theorem ty_size (w : World) : typeIn (kf w.params) (.ref 117) = some (.type "function") := by k_is
theorem fi_size (w : World) : findIn (kf w.params) (.ref 198) (Str.ofString "size") = some (some (.ref 117)) := by k_is
theorem ke_size (w : World) : keepIn (kf w.params) (.ref 117) = true := by k_is
theorem size_spec {n : Nat} (r : Rm (n + 1) A) (B : Bs (kf w.params) h0 h) (K : Bank w h0 h b dx an am aw ad tr) (hsz : tr.length ≤ 1000)
    (hR : ∀ h' tk' t, Kx Non h h' → R (.ok (.ret (.int (tr.length : Nat) t))) (Sh s h' tk')) :
    codeAny (model prg w) A (.call (.ref 117) ⟨[.ref b], []⟩) R (Sh s h tk) := by
  refine enter r B (by k_is) (by k_is) (binds := [(Str.ofString "self", .ref b)]) rfl (by rfl) (fun L h₁ tk₁ hL r₁ B₁ k₁ hm F => ?_)
  obtain ⟨nv, ln, pn, _⟩ := K.nodes
  have hl : nv.length = tr.length := (Paired.length pn).symm
  refine x_ret (e_len B₁ (e_attr (nm_L F.ns (v := .ref b) rfl (get_nodes B₁ (K.non k₁).bk fun tk2 => len_ls (ln.kx k₁ fun h => h) (by omega) fun t3 tk3 => ?_))))
  rw [hl]
  exact hR h₁ tk3 t3 k₁

theorem op_spec {n : Nat} {t : Tree} {tn : Tok} (r : Rm (n + 1) A) (B : Bs (kf w.params) h0 h) (K : Bank w h0 h b dx an am aw ad tr) (hsz : tr.length ≤ 1000) (ht' : t ∈ tr)
    (hR : ∀ h' tk' to, Kx Non h h' → R (.ok (.ret (.str t.op to))) (Sh s h' tk')) :
    codeAny (model prg w) A (.call (.ref 155) ⟨[.ref b, .int (idx tr t : Nat) tn], []⟩) R (Sh s h tk) := by
  refine enter r B (by k_is) (by k_is) (binds := [(Str.ofString "self", .ref b), (Str.ofString "n", .int (idx tr t : Nat) tn)]) rfl (by rfl) (fun L h₁ tk₁ hL r₁ B₁ k₁ hm F => ?_)
  obtain ⟨nv, ln, pn, _⟩ := (K.non k₁).nodes
  have hl : nv.length = tr.length := (Paired.length pn).symm
  have hi := idx_lt ht'
  obtain ⟨u, hu, a, to, is, ev, Ta, _⟩ := Paired.get' pn (List.getElem?_eq_getElem (show idx tr t < nv.length by omega))
  rw [idx_get ht'] at hu; cases hu
  refine x_ret (Subscript_ (Subscript_ (e_attr (nm_L F.ns (v := .ref b) rfl (get_nodes B₁ (K.non k₁).bk fun tk2 => nm_L F.ns (v := .int (idx tr t : Nat) tn) rfl (sub_ls (x := .ref a) ln (by omega) (by omega) (by rw [Int.toNat_natCast, ← ev]; exact List.getElem?_eq_getElem _) (e_int fun t3 tk3 => sub_tp Ta (by decide) (by decide) (x := .str t.op to) rfl (hR h₁ tk3 to k₁))))))))

theorem kids_spec {n : Nat} {t : Tree} {tn : Tok} (r : Rm (n + 1) A) (B : Bs (kf w.params) h0 h) (K : Bank w h0 h b dx an am aw ad tr) (hsz : tr.length ≤ 1000) (ht' : t ∈ tr) (hkl : t.kids.length ≤ 1000)
    (hR : ∀ h' tk' c is, Tp h' c is → Paired (fun k v => ∃ u, v = Value.int (idx tr k : Nat) u) t.kids is → Kx Non h h' → R (.ok (.ret (.ref c))) (Sh s h' tk')) :
    codeAny (model prg w) A (.call (.ref 162) ⟨[.ref b, .int (idx tr t : Nat) tn], []⟩) R (Sh s h tk) := by
  refine enter r B (by k_is) (by k_is) (binds := [(Str.ofString "self", .ref b), (Str.ofString "n", .int (idx tr t : Nat) tn)]) rfl (by rfl) (fun L h₁ tk₁ hL r₁ B₁ k₁ hm F => ?_)
  obtain ⟨nv, ln, pn, _⟩ := (K.non k₁).nodes
  have hl : nv.length = tr.length := (Paired.length pn).symm
  have hi := idx_lt ht'
  obtain ⟨u, hu, a, to, is, ev, Ta, pk⟩ := Paired.get' pn (List.getElem?_eq_getElem (show idx tr t < nv.length by omega))
  rw [idx_get ht'] at hu; cases hu
  have hil : is.length = t.kids.length := (Paired.length pk).symm
  refine x_ret (e_tail (s := s) (Subscript_ (e_attr (nm_L F.ns (v := .ref b) rfl (get_nodes B₁ (K.non k₁).bk fun tk2 => nm_L F.ns (v := .int (idx tr t : Nat) tn) rfl (sub_ls (x := .ref a) ln (by omega) (by omega) (by rw [Int.toNat_natCast, ← ev]; exact List.getElem?_eq_getElem _) ⟨a, _, is, h₁, _, rfl, rfl, Ta, by omega, fun h2 c tk2 tc _ k2 => ?_⟩))))))
  exact hR h2 tk2 c is tc pk (k₁.trans k2)
end
end Mine

namespace Mine

section
variable {w : World} {A : Around} {s : Shared} {h : Heap} {tk : Nat} {h0 : Heap} {R : Result → Shared → Prop} {E : Value → Shared → Prop} {env : Env} {b dx an am aw ad : Addr} {tr : List Tree}

def headS (x : Str) : Str := ⟨#[x.cps.getD 0 0]⟩
/-- x[0] of a text -/
theorem sub_st {value slice : Expr} {x : Str} {t : Tok} {u : Tok} {Q : Value → Shared → Prop} (hx : 0 < x.cps.size) (hQ : ∀ t' tk', Q (.str (headS x) t') (Sh s h tk'))
    (hs : subscripted slice false (.str x t) (.int 0 u) = operate [.str x t, .int 0 u] (getItem (.str x t) (.int 0 u)) := by with_unfolding_all rfl) :
    wpAny (model prg w) A (subscriptTail value slice (.str x t) (.int 0 u)) Q E (Sh s h tk) := by
  refine tail_any (s := Sh s h tk) (typeIs_str _ x t) PySem.F.slot_str_getitem.lookup (P.getItem_str (c := x.cps.getD 0 0) (by decide) ?_ (hQ _ _)) hs
  have e : seqIndex? 0 x.length = some 0 := by
    unfold seqIndex?
    have : (0 : Int) < x.length := by show (0 : Int) < (x.cps.size : Int); omega
    simp
    omega
  rw [e]
  show x.cps[0]? = _
  rw [Array.getElem?_eq_getElem hx, Array.getD_eq_getD_getElem?, Array.getElem?_eq_getElem hx]
  rfl

def okOp (x : Str) : Bool := isOp x && !(headS x == qm)
theorem isOp_pos {x : Str} (h : isOp x = true) : 0 < x.cps.size := by
  unfold isOp at h
  rw [Bool.and_eq_true] at h
  by_cases h0 : x.cps.size = 0
  · have : x = Str.ofString "" := by
      cases x with
      | mk a =>
        have : a = #[] := Array.size_eq_zero_iff.mp h0
        subst this; rfl
    rw [this] at h; simp at h
  · omega
theorem g_isop : nsIn (kf w.params) mainGlobals (Str.ofString "is_op") = some (some (.ref 67)) := by k_is
theorem k_isop : keepIn (kf w.params) (.ref 67) = true := by k_is
theorem require_ok {x : Str} {t : Tok} {n : Nat} (r : Rm (n + 2) A) (B : Bs (kf w.params) h0 h) (hx : x.cps.size ≤ 1000) (ho : okOp x = true)
    (hR : ∀ h' tk', Kx Non h h' → R (.ok (.ret .none)) (Sh s h' tk')) :
    codeAny (model prg w) A (.call (.ref 129) ⟨[.ref b, .str x t], []⟩) R (Sh s h tk) := by
  refine enter r B (by k_is) (by k_is) (binds := [(Str.ofString "self", .ref b), (Str.ofString "op", .str x t)]) rfl (by rfl) (fun L h₁ tk₁ hL r₁ B₁ k₁ hm F => ?_)
  unfold okOp at ho
  rw [Bool.and_eq_true] at ho
  refine x_if (wpAny_isTrue_BoolOp (wpAny_allTrue_Or_cons (wpAny_isTrue_Not (wpAny_isTrue_value (Call_ (nm_K B₁ g_isop (cw_K (K := kf w.params) (h0 := h0) k_isop (ar_cons (nm_L F.ns (v := .str x t) rfl (ar_nil ⟨B₁, wpAny_call ?_⟩))))))))))
  refine isop_spec (n := n) r₁ B₁ (by omega) fun h₂ tk₂ k₂ => wpAny_truthy_bool ?_
  rw [ho.1]
  simp only [Bool.not_true, Bool.false_eq_true, if_false]
  refine wpAny_allTrue_Or_cons (wpAny_isTrue_Compare1 (Subscript_ (nm_L (F.non k₂).ns (v := .str x t) rfl (e_int fun t3 tk3 => sub_st (isOp_pos ho.1) fun t4 tk4 => e_str fun t5 tk5 => eq_str (wpAny_truthy_bool ?_)))))
  have hq : (headS x == Str.ofString "?") = false := by
    have := ho.2
    show (headS x == qm) = false
    simpa using this
  rw [hq]
  simp only [Bool.false_eq_true, if_false]
  refine wpAny_allTrue_Or_nil ?_
  simp only [Bool.false_eq_true, if_false]
  exact wpAny_execs_nil (wpAny_execs_nil (hR h₂ tk5 (k₁.trans k₂)))
end
end Mine

namespace Mine

theorem Nums.at_mem {w : World} {h : Heap} {am : Addr} {tr : List Tree} {nv : List Value} {xs : List (List Ky × Addr × Value)} (x : Nums w h am tr nv xs) {t : Tree} (ht' : t ∈ tr) : ∃ a u, atKey xs (keyOf tr t) = some (a, .int (idx tr t : Nat) u) := by
  have hi := idx_lt ht'
  have hl : xs.length = tr.length := by have := congrArg List.length x.keys; simpa using this
  have e : xs[idx tr t]? = some xs[idx tr t] := List.getElem?_eq_getElem (by omega)
  obtain ⟨u, hu⟩ := x.vals _ _ e
  have ek : (xs[idx tr t]'(by omega)).1 = keyOf tr t := by
    have h1 : (xs.map (·.1))[idx tr t]? = some (xs[idx tr t]'(by omega)).1 := by rw [List.getElem?_map, e]; rfl
    have h2 : (tr.map (keyOf tr))[idx tr t]? = some (keyOf tr t) := by rw [List.getElem?_map, idx_get ht']; rfl
    rw [x.keys, h2] at h1
    exact (Option.some.inj h1).symm
  obtain ⟨_, _, _, _, _, _, _, _, hn⟩ := x.dict
  refine ⟨(xs[idx tr t]'(by omega)).2.1, u, ?_⟩
  rw [← ek, ← hu]
  exact atKey_of_get hn e
theorem Nums.at_new {w : World} {h : Heap} {am : Addr} {tr : List Tree} {nv : List Value} {xs : List (List Ky × Addr × Value)} (x : Nums w h am tr nv xs) (o : TrOk tr) {t : Tree} (ht' : t ∉ tr) (hk : ∀ k ∈ t.kids, k ∈ tr) : atKey xs (keyOf tr t) = none := by
  refine atKey_none_of_get fun j p e => ?_
  have h1 : (xs.map (·.1))[j]? = some (keyOf tr t) := by rw [List.getElem?_map, e]; rfl
  rw [x.keys, List.getElem?_map] at h1
  obtain ⟨u, hu, e'⟩ := Option.map_eq_some_iff.mp h1
  have hm := List.mem_of_getElem? hu
  exact ht' (keyOf_inj (o.mem hm) hk e' ▸ hm)

section
variable {w : World} {A : Around} {s : Shared} {h : Heap} {tk : Nat} {h0 : Heap} {R : Result → Shared → Prop} {E : Value → Shared → Prop} {env : Env} {b dx an am aw ad : Addr} {tr : List Tree}

theorem call_tuple_tp {a : Addr} {vs : List Value} {Q : Value → Shared → Prop} (T : Tp h a vs) (hQ : Q (.ref a) (Sh s h tk)) : wpAny (model prg w) A (call (.type "tuple") [.ref a]) Q E (Sh s h tk) := call_tuple_same T.isTuple hQ

theorem add_ls {a b : Addr} {vs us : List Value} {Q : Value → Shared → Prop} (T : Ls h a vs) (T2 : Ls h b us) (hsz : vs.length + us.length ≤ 100000) (hQ : ∀ h' c, Ls h' c (vs ++ us) → h.get? c = none → Kx Non h h' → Q (.ref c) (Sh s h' tk)) :
    wpAny (model prg w) A (binaryOp .Add (.ref a) (.ref b)) Q E (Sh s h tk) := by
  obtain ⟨n, ho⟩ := T
  obtain ⟨n2, ho2⟩ := T2
  refine concat_meets ⟨_, ho, rfl⟩ ⟨_, ho2, rfl⟩ noFill_list_add seq_list_add PySem.F.slot_list_add PySem.F.entry_list_add (PySem.F.args_list_add_2 _ _)
    (list_addW a b vs.toArray us.toArray n n2 none none #[] #[] (by rw [sizeLine_eq]; simp; omega)) ⟨ho, ho2, ?_⟩
  refine hQ _ _ ?_ (get_none_of_ge (Nat.le_refl _)) (Kx.push _ _)
  have := Ls.newList h (vs ++ us)
  simpa using this

def IsNum (tr : List Tree) (k : Tree) (v : Value) : Prop := ∃ u, v = Value.int (idx tr k : Nat) u
/-- what take changes -/
def Mut (an am aw ad c : Addr) : Prop := c = am ∨ c = an ∨ c = aw ∨ c = ad

/-- [self.attr[kid] for kid in node[1:]] -/
theorem comp_attr {attr : Str} {lst nd c : Addr} {u : Value} {is wv : List Value} {ks : List Tree} {scope : Scope} {p1 p2 p3 p4 p5 p6 p7 p8 p9 p0 : Pos} {k1 : Nat} {Q : Value → Shared → Prop} {m : Str → Option Value}
    (hget : ∀ {A' : Around} {Q' : Value → Shared → Prop} {E' : Value → Shared → Prop} {h' : Heap} {tk' : Nat}, Bs (kf w.params) h0 h' → BkAt h' b dx an am aw ad → (∀ tk2, Q' (.ref lst) (Sh s h' tk2)) → wpAny (model prg w) A' (getAttr (.ref b) attr true) Q' E' (Sh s h' tk'))
    (hh : A.handled = none) (B : Bs (kf w.params) h0 h) (K : BkAt h b dx an am aw ad) (F : h.Ns env.locals m) (hn : m (Str.ofString "node") = some (.ref nd)) (T : Tp h nd (u :: is)) (hk : Paired (IsNum tr) ks is) (hl : is.length ≤ 1000) (hmem : ∀ k ∈ ks, k ∈ tr)
    (lw : Ls h lst wv) (hw : AllInt wv) (hwl : tr.length ≤ wv.length) (hwb : wv.length ≤ 100000) (hcell : h.IsCell c (some (.ref b)))
    (hQ : ∀ h' tk' D ys, Ls h' D ys → AllInt ys → ys.length = is.length → h.get? D = none → Kx Non h h' → Q (.ref D) (Sh s h' tk'))
    (hk1 : env.scope.kind = .function := by rfl) (hx1 : env.kindOf (Str.ofString "node") = some .local := by rfl)
    (hclos : closureFor scope env = pure [(Str.ofString "self", c)] := by rfl) (hc1 : ∀ y ∈ scope.names, y.2 ≠ .cell := by decide) (hc2 : ∀ y ∈ scope.names, y.2 = .local → scope.names.lookup y.1 = some .local := by decide)
    (hsk : scope.kind = .function := by rfl) (hs1 : ∀ L', (compEnvC scope [(Str.ofString "self", c)] L' env).kindOf (Str.ofString "self") = some .cell := by intro _; rfl) (hs2 : ∀ L', (compEnvC scope [(Str.ofString "self", c)] L' env).kindOf (Str.ofString "kid") = some .local := by intro _; rfl)
    (hs3 : ∀ L', (compEnvC scope [(Str.ofString "self", c)] L' env).cells.lookup (Str.ofString "self") = some c := by intro _; rfl) (hs4 : ∀ L', (compEnvC scope [(Str.ofString "self", c)] L' env).scope.kind = .function := by intro _; rfl) :
    wpAny (model prg w) A (eval (.ListComp (.Subscript (.Attribute (.Name (Str.ofString "self") p1) attr p2) (.Name (Str.ofString "kid") p3) p4) [⟨.Name (Str.ofString "kid") p5, .Subscript (.Name (Str.ofString "node") p6) (.Slice (some (.Constant (.int 1) k1 p7)) none none p8) p9, [], 0⟩] scope p0) env) Q E (Sh s h tk) := by
  refine comp_W (s := s) (cl := [(Str.ofString "self", c)]) hclos hc1 hc2 (e_tail (nm_L F hn ⟨nd, u, is, h, tk, rfl, rfl, T, by omega, fun h₂ c2 tk₂ t2 n2 k₂ => ?_⟩ hk1 hx1)) (fun _ => rfl) hsk
  have B₂ := k₂.bs B
  refine ca_tp hh t2 (by omega) Non (fun b hb => hb.elim) (fun i ys h' => Bs (kf w.params) h0 h' ∧ BkAt h' b dx an am aw ad ∧ Ls h' lst wv ∧ h'.IsCell c (some (.ref b)) ∧ AllInt ys ∧ ys.length = i)
    ⟨B₂, K.kx k₂ (fun h => h) (fun h => h), lw.kx k₂ (fun h => h), Cell.kx hcell k₂ (fun h => h), (fun v hv => absurd hv (by simp)), rfl⟩ (fun i ys h' h'' ⟨q1, q2, q3, q4, q5, q6⟩ k => ?_) (fun i v ys h₃ tk₃ m₃ hi ⟨q1, q2, q3, q4, q5, q6⟩ n₃ e₃ => ?_) (fun ys h₃ tk₃ D hD ⟨q1, q2, q3, q4, q5, q6⟩ l₃ k₃ => ?_) hsk (hs2 _)
  · have old : ∀ b, b < h₂.objs.size → ¬ (h₂.objs.size ≤ b ∧ b ≤ h₂.objs.size + 2) := fun b hb h' => absurd hb (Nat.not_lt.mpr h'.1)
    have K2 := K.kx k₂ (fun h => h) fun h => h
    exact ⟨q1.kx k fun b hb => B₂.off_new hb.1, q2.kx k (old _ K2.ltb) (old _ K2.ltd), q3.kx k (old _ (lw.kx k₂ fun h => h).lt), Cell.kx q4 k (old _ (Cell.kx hcell k₂ fun h => h).lt), q5, q6⟩
  · obtain ⟨t, ht', u', rfl⟩ := Paired.get' hk hi
    have hmt := hmem t (List.mem_of_getElem? ht')
    have hlt := idx_lt hmt
    obtain ⟨n', t', hx⟩ := hw (wv[idx tr t]'(by omega)) (List.getElem_mem _)
    refine wpAny_tests_nil ?_
    rw [if_pos rfl]
    refine Subscript_ (Attribute_any_ (nm_C q4 (hget q1 q2 fun tk4 => nm_L n₃ e₃ (sub_ls (x := .int n' t') q3 (by omega) (by omega) (by rw [Int.toNat_natCast, ← hx]; exact List.getElem?_eq_getElem _) ?_) (hs4 _) (hs2 _)) (hs3 _) (hs4 _) (hs1 _)))
    refine ⟨h₃, tk4, rfl, Kx.refl _ _, q1, q2, q3, q4, fun v hv => ?_, by simp [q6]⟩
    rcases List.mem_append.mp hv with h1 | h1
    · exact q5 v h1
    · rw [List.mem_singleton] at h1; exact ⟨_, _, h1⟩
  · exact hQ h₃ tk₃ D ys l₃ q5 q6 (k₂.gone hD) (k₂.trans k₃)

theorem g_sum : nsIn (kf w.params) mainGlobals (Str.ofString "sum") = some none := by k_is
theorem b_sum : bootBuiltins (Str.ofString "sum") = some (.builtin "sum") := by boot_by_name
theorem g_max : nsIn (kf w.params) mainGlobals (Str.ofString "max") = some none := by k_is
theorem b_max : bootBuiltins (Str.ofString "max") = some (.builtin "max") := by boot_by_name
theorem fi_req (w : World) : findIn (kf w.params) (.ref 198) (Str.ofString "require") = some (some (.ref 129)) := by k_is
theorem ty_req (w : World) : typeIn (kf w.params) (.ref 129) = some (.type "function") := by k_is
theorem ke_req (w : World) : keepIn (kf w.params) (.ref 129) = true := by k_is
theorem no_req : NoOwn (Str.ofString "require") := fun _ _ _ _ _ _ _ _ _ _ _ _ _ => rfl

theorem take_spec {op : Str} {ks : List Tree} {t : Tok} {kt : Addr} {is : List Value} {n : Nat} (r : Rm (n + 3) A) (B : Bs (kf w.params) h0 h) (K : Bank w h0 h b dx an am aw ad tr) (hx : op.cps.size ≤ 1000) (ho : okOp op = true)
    (T : Tp h kt is) (hk : Paired (IsNum tr) ks is) (hmem : ∀ k ∈ ks, k ∈ tr) (hsz : tr.length ≤ 900) (hkl : ks.length ≤ 100)
    (hR : ∀ h' tk' u, Bank w h0 h' b dx an am aw ad (onceTStep tr (.node op ks)) → Kx (Mut an am aw ad) h h' → R (.ok (.ret (.int (idx (onceTStep tr (.node op ks)) (.node op ks) : Nat) u))) (Sh s h' tk')) :
    codeAny (model prg w) A (.call (.ref 122) ⟨[.ref b, .str op t, .ref kt], []⟩) R (Sh s h tk) := by
  refine enter r B (by k_is) (by k_is) (binds := [(Str.ofString "self", .ref b), (Str.ofString "op", .str op t), (Str.ofString "kids", .ref kt)]) rfl (by rfl) (fun L h₁ tk₁ hL r₁ B₁ k₁ hm F => ?_)
  have hL1 : ∀ b, F.own b → h.get? b = none := fun b hb => get_none_of_ge (hm b hb).1
  have hil : is.length = ks.length := (Paired.length hk).symm
  refine x_set (wpAny_BinOp (e_tuple (s := s) (ar_cons (nm_L F.ns (v := .str op t) rfl (ar_nil ⟨h₁, tk₁, rfl, by simp, fun h₂ t2 k₂ => ?_⟩)))))
  have B₂ := k₂.bs B₁
  refine Call_ (nm_B B₂ g_tuple b_tuple (callWith_type1 (ar_cons (nm_L (F.non k₂).ns (v := .ref kt) rfl (ar_nil (call_tuple_tp ((T.kx k₁).kx k₂) (add_tp t2 ((T.kx k₁).kx k₂) (by simp; omega) fun h₃ nd t3 k₃ => ?_)))))))
  refine st_L ((F.non k₂).non k₃) fun h₄ tk₄ F4 k₄ => ?_
  have kk3 := (k₁.trans k₂).trans k₃
  have kk4 := kk3.more k₄ fun b hb => hL1 b (.inl hb)
  have B₄ := kk4.bs B
  have K4 := K.non kk4
  have T4 : Tp h₄ nd (.str op t :: is) := t3.kx k₄
  have N4 : NodeV h₄ tr (.node op ks) (.ref nd) := ⟨nd, t, is, rfl, T4, hk⟩
  have c4 : h₄.IsCell (L + 1) (some (.ref b)) := F4.cell (Str.ofString "self") (L + 1) (by rfl)
  obtain ⟨nv, ln, pn, nm⟩ := K4.nodes
  obtain ⟨xs, X⟩ := nm.open K4.ok pn
  have hu1 : (tupleKind (mix w)).room (A.deeper F.env).in1 := r₁.units1
  refine x_if (wpAny_isTrue_Compare1 (nm_L F4.ns (v := .ref nd) (if_pos rfl) (e_attr (nm_C c4 (get_numbers B₄ K4.bk fun tk5 => wpAny_in_heap hu1 N4.key K4.notSys X.dict (wpAny_truthy_bool ?_))))))
  by_cases hin : Tree.node op ks ∈ tr
  · obtain ⟨a, u, hat⟩ := X.at_mem hin
    rw [hat]
    simp only [Option.isSome_some, if_true]
    have e : onceTStep tr (.node op ks) = tr := by unfold onceTStep; rw [if_pos hin]
    rw [e] at hR
    refine x_ret (Subscript_ (e_attr (nm_C c4 (get_numbers B₄ K4.bk fun tk6 => nm_L F4.ns (v := .ref nd) (if_pos rfl) ?_))))
    refine tail_any (s := Sh s h₄ tk6) X.dict.typeIs slot_dict_getitem.lookup (wpAny_getItem_heap (s := Sh s h₄ tk6) hu1 N4.key X.dict hat ?_) (by with_unfolding_all rfl)
    exact hR h₄ _ u K4 (kk4.ofNon)
  · rw [X.at_new K4.ok hin hmem]
    simp only [Option.isSome_none, Bool.false_eq_true, if_false]
    refine wpAny_execs_nil ?_
    have e : onceTStep tr (.node op ks) = tr ++ [.node op ks] := by unfold onceTStep; rw [if_neg hin]
    rw [e, idx_new hin] at hR
    refine x_expr (e_meth (s := s) (fi_req w) (ty_req w) no_req (ke_req w) (nm_C c4 ⟨b, dx, an, am, aw, ad, h₄, _, rfl, rfl, K4.bk, B₄, ar_cons (nm_L F4.ns (v := .str op t) rfl (ar_nil ⟨B₄, wpAny_call (require_ok (n := n) r₁ B₄ hx ho fun h₅ tk₅ k₅ => ⟨rfl, ?_⟩)⟩))⟩))
    have F5 := F4.non k₅
    have B₅ := k₅.bs B₄
    have kk5 := kk4.trans k₅
    have T5 := T4.kx k₅
    -- the kids are numbers
    refine x_for (e_tail (nm_L F5.ns (v := .ref nd) (if_pos rfl) ⟨nd, _, is, h₅, tk₅, rfl, rfl, T5, by omega, fun h₆ c6 tk6 t6 n6 k6 => ?_⟩))
    have kk6 := kk5.trans k6
    have F6 := F5.non k6
    refine for_tp r₁.h t6 F.own (fun c hc => ⟨F6.lt hc, fun e => ?_⟩) (fun i h' => ∃ m' cm', Fx F.env m' cm' h' ∧ m' (Str.ofString "node") = some (.ref nd) ∧ h'.IsCell (L + 1) (some (.ref b)) ∧ Tp h' nd (.str op t :: is) ∧ Kx Non h h')
      ⟨_, _, F6, if_pos rfl, F6.cell (Str.ofString "self") (L + 1) (by rfl), T5.kx k6, kk6⟩ ?_ ?_ ?_
    · obtain ⟨o, ho'⟩ := F5.live hc
      rw [e, n6] at ho'; cases ho'
    · rintro i h7 h8 ⟨m', cm', F7, e7, c7, T7, k7⟩ k
      have hlt : ∀ c, c < h₆.objs.size → ¬ c = h₆.objs.size := fun c hc e => Nat.lt_irrefl _ (e ▸ hc)
      exact ⟨m', cm', F7.kx k fun c hc hm' => hlt c (F6.lt hm') hc, e7, Cell.kx c7 k (hlt _ (F6.lt (.inr ⟨Str.ofString "self", mem_of_lookup (by rfl)⟩))), T7.kx k, k7.more k fun c hc => hc ▸ kk6.gone_ge (Nat.le_refl _)⟩
    · rintro i v h7 tk7 hi ⟨m', cm', F7, e7, c7, T7, k7⟩
      obtain ⟨kd, hkd, u, rfl⟩ := Paired.get' hk hi
      have hlt := idx_lt (hmem kd (List.mem_of_getElem? hkd))
      refine as_L F7 fun h8 tk8 F8 k8 => ?_
      have kk8 := k7.more k8 fun c hc => hL1 c (.inl hc)
      have K8 := K.non kk8
      obtain ⟨nv8, ln8, pn8, _⟩ := K8.nodes
      have hnl : nv8.length = tr.length := (Paired.length pn8).symm
      have c8 : h8.IsCell (L + 1) (some (.ref b)) := Cell.kx c7 k8 fun e => by
        have : F.env.locals < L + 1 := F.above (Str.ofString "self") (L + 1) (mem_of_lookup (by rfl))
        exact Nat.lt_irrefl _ (e ▸ this)
      refine x_if (wpAny_isTrue_Not (isTrue_chain (e_int fun t9 tk9 => test_link (nm_L F8.ns (v := .int (idx tr kd : Nat) u) (if_pos rfl) (PyProof.Rows.le_int (wpAny_truthy_bool ?_))))))
      rw [if_pos (decide_eq_true (by omega))]
      refine test_last (e_len (kk8.bs B) (e_attr (nm_C c8 (get_nodes (kk8.bs B) K8.bk fun tk10 => len_ls ln8 (by omega) fun t11 tk11 => lt_int (wpAny_truthy_bool ?_)))))
      rw [decide_eq_true (by omega)]
      simp only [Bool.not_true, Bool.false_eq_true, if_false]
      refine wpAny_execs_nil (wpAny_execs_nil ⟨h8, _, rfl, k8.mono fun c hc => .inl hc, _, _, F8, (if_neg (by decide)).trans e7, c8, T7.kx k8, kk8⟩)
    · rintro h7 tk7 ⟨m', cm', F7, e7, c7, T7, k7⟩
      have B7 := k7.bs B
      have K7 := K.non k7
      have N7 : NodeV h7 tr (.node op ks) (.ref nd) := ⟨nd, t, is, rfl, T7, hk⟩
      obtain ⟨nv, ln, pn, nm⟩ := K7.nodes
      obtain ⟨xs, X⟩ := nm.open K7.ok pn
      have hnl : nv.length = tr.length := (Paired.length pn).symm
      have hxl : xs.length = tr.length := by have := congrArg List.length X.keys; simpa using this
      -- numbers
      refine wpAny_execs_cons (wpAny_Assign_Subscript (e_len B7 (e_attr (nm_C c7 (get_nodes B7 K7.bk fun tk8 => len_ls ln (by omega) fun t9 tk9 => e_attr (nm_C c7 (get_numbers B7 K7.bk fun tk10 => nm_L F7.ns e7 ?_)))))))
      refine wpAny_setItem_heap (s := Sh s h7 tk10) (xs := xs) hu1 N7.key X.dict (fun h8 D8 sb8 => ?_) (by rw [sizeLine_eq, hxl]; omega)
      rw [storedH_new (X.at_new K7.ok hin hmem)] at D8
      have ap := K.apart
      simp only [List.nodup_cons, List.mem_cons, List.not_mem_nil, or_false, not_or, List.nodup_nil, not_false_eq_true, and_true] at ap
      obtain ⟨⟨nb1, nb2, nb3, nb4, nb5⟩, ⟨nd2, nd3, nd4, nd5⟩, ⟨nn3, nn4, nn5⟩, ⟨nm4, nm5⟩, nw5⟩ := ap
      have nown : ∀ c ∈ [b, dx, an, am, aw, ad], ¬ F.own c := fun c hc ho' => absurd (K.lt c hc) (Nat.not_lt.mpr (hm c ho').1)
      have k8 : Kx (· = am) h7 h8 := Kx.same sb8 (by
        obtain ⟨o, es, ep, ho', hc, _⟩ := X.dict
        exact not_tp_of_cls ho' (by rw [hc.1]; decide))
      have F8 := F7.kx k8 fun c hc hm' => nown am (by simp) (hc ▸ hm')
      have cl1 : F.own (L + 1) := .inr ⟨Str.ofString "self", mem_of_lookup (by rfl)⟩
      have nself : ∀ c ∈ [b, dx, an, am, aw, ad], L + 1 ≠ c := fun c hc e => nown c hc (e ▸ cl1)
      have c8 := Cell.kx c7 k8 (nself am (by simp))
      have bk8 := K7.bk.kx k8 nb3 nd3
      have ln8 := ln.kx k8 nn3
      have B8 := B7.kx k8 fun c hc => hc ▸ K.off am (by simp)
      -- nodes
      refine x_expr (e_lmeth1 PySem.F.slot_list_append PySem.F.type_list_append (e_attr (nm_C c8 (get_nodes B8 bk8 fun tk11 => ⟨an, nv, rfl, ln8, nm_L F8.ns e7 (call_append ln8 (by omega) fun h9 l9 k9 => ⟨rfl, ?_⟩)⟩))))
      have F9 := F8.kx k9 fun c hc hm' => nown an (by simp) (hc ▸ hm')
      have c9 := Cell.kx c8 k9 (nself an (by simp))
      have bk9 := bk8.kx k9 nb2 nd2
      have B9 := B8.kx k9 fun c hc => hc ▸ K.off an (by simp)
      obtain ⟨wv, lw, hwv, hwl⟩ := K7.weights
      have lw9 := (lw.kx k8 (Ne.symm nm4)).kx k9 (Ne.symm nn4)
      have T9 := (T7.kx k8).kx k9
      -- weights
      refine x_expr (e_lmeth1 PySem.F.slot_list_append PySem.F.type_list_append (e_attr (nm_C c9 (get_weights B9 bk9 fun tk12 => ⟨aw, wv, rfl, lw9, ?_⟩))))
      refine wpAny_BinOp (e_int fun t13 tk13 => Call_ (nm_B B9 g_sum b_sum (callWith_builtin1 (ar_cons ?_))))
      refine comp_attr (lst := aw) (c := L + 1) (tr := tr) (fun B' K' hQ' => get_weights B' K' hQ') r₁.h B9 bk9 F9.ns e7 T9 hk (by omega) hmem lw9 hwv (by omega) (by omega) c9 (fun h10 tk10 D10 ys l10 hy hyl hD10 k10 => ?_)
      refine ar_nil (call_sum r₁.h l10 hy fun h11 tk11 n11 t11 k11 => add_int ?_)
      have lw11 := (lw9.kx k10 fun h => h).kx k11 fun h => h
      refine call_append lw11 (by omega) fun h12 l12 k12 => ⟨rfl, ?_⟩
      have k9_12 : Kx (· = aw) h9 h12 := (k10.trans k11).ofNon.trans k12
      have F12 := F9.kx k9_12 fun c hc hm' => nown aw (by simp) (hc ▸ hm')
      have c12 := Cell.kx c9 k9_12 (nself aw (by simp))
      have bk12 := bk9.kx k9_12 nb4 nd4
      have B12 := B9.kx k9_12 fun c hc => hc ▸ K.off aw (by simp)
      obtain ⟨dv, ldp, hdv, hdl⟩ := K7.depths
      have ld12 := ((ldp.kx k8 (Ne.symm nm5)).kx k9 (Ne.symm nn5)).kx k9_12 (Ne.symm nw5)
      have T12 := T9.kx k9_12
      -- depths
      refine x_expr (e_lmeth1 PySem.F.slot_list_append PySem.F.type_list_append (e_attr (nm_C c12 (get_depths B12 bk12 fun tk12 => ⟨ad, dv, rfl, ld12, ?_⟩))))
      refine wpAny_BinOp (e_int fun t13 tk13 => Call_ (nm_B B12 g_max b_max (callWith_builtin1 (ar_cons (wpAny_BinOp ?_)))))
      refine comp_attr (lst := ad) (c := L + 1) (tr := tr) (fun B' K' hQ' => get_depths B' K' hQ') r₁.h B12 bk12 F12.ns e7 T12 hk (by omega) hmem ld12 hdv (by omega) (by omega) c12 (fun h13 tk13 D13 ys l13 hy hyl hD13 k13 => ?_)
      refine e_list (s := s) (ar_cons (e_int fun t14 tk14 => ar_nil ⟨h13, tk14, rfl, by simp, fun h14 l14 k14 => ?_⟩))
      refine add_ls (l13.kx k14 fun h => h) l14 (by simp; omega) fun h15 c15 l15 hc15 k15 => ?_
      refine ar_nil (call_max r₁.h l15 (fun v hv => ?_) (by simp) fun h16 tk16 n16 t16 k16 => add_int ?_)
      · rcases List.mem_append.mp hv with h1 | h1
        · exact hy v h1
        · rw [List.mem_singleton] at h1; exact ⟨_, _, h1⟩
      have k12_16 := ((k13.trans k14).trans k15).trans k16
      refine call_append (ld12.kx k12_16 fun h => h) (by omega) fun h17 l17 k17 => ⟨rfl, ?_⟩
      have k12_17 : Kx (· = ad) h12 h17 := k12_16.ofNon.trans k17
      have F17 := F12.kx k12_17 fun c hc hm' => nown ad (by simp) (hc ▸ hm')
      have c17 := Cell.kx c12 k12_17 (nself ad (by simp))
      have bk17 := bk12.kx k12_17 nb5 nd5
      have B17 := B12.kx k12_17 fun c hc => hc ▸ K.off ad (by simp)
      have l9_17 : Ls h17 an (nv ++ [.ref nd]) := (l9.kx k9_12 nn4).kx k12_17 nn5
      have mutAll : Kx (Mut an am aw ad) h7 h17 := (((k8.mono fun c hc => .inl hc).trans (k9.mono fun c hc => .inr (.inl hc))).trans (k9_12.mono fun c hc => .inr (.inr (.inl hc)))).trans (k12_17.mono fun c hc => .inr (.inr (.inr hc)))
      have hkx : Kx (Mut an am aw ad) h h17 := k7.ofNon.trans mutAll
      -- the end
      refine x_ret (wpAny_BinOp (e_len B17 (e_attr (nm_C c17 (get_nodes B17 bk17 fun tk18 => len_ls l9_17 (by simp; omega) fun t19 tk19 => e_int fun t20 tk20 => sub_int ?_)))))
      have elen : (((nv ++ [Value.ref nd]).length : Nat) : Int) - 1 = (tr.length : Int) := by simp [hnl]
      rw [elen]
      refine hR h17 _ _ ⟨bk17, K7.ok.snoc hin hmem, ⟨nv ++ [.ref nd], l9_17, ?_, ?_⟩, ⟨_, l12.kx k12_17 nw5, ?_, ?_⟩, ⟨_, l17, ?_, ?_⟩, K.apart, K.off, K.notSys⟩ hkx
      · refine Paired.app (Paired.mem_imp pn fun a v ha x => (x.kx mutAll).app (K7.ok.mem ha)) (.cons ((N7.kx mutAll).app hmem) .nil)
      · have NX : NumAt w h8 am (tr ++ [.node op ks]) (nv ++ [.ref nd]) := by
          refine Nums.close (xs := xs ++ [(keyOf tr (.node op ks), nd, .int (nv.length : Nat) t9)]) ⟨D8, ?_, ?_, fun j x hj => ?_⟩
          · rw [List.map_append, List.map_append, X.keys]
            congr 1
            · exact List.map_congr_left fun a ha => (keyOf_app (K7.ok.mem ha)).symm
            · show [keyOf tr (.node op ks)] = [keyOf (tr ++ [.node op ks]) (.node op ks)]
              rw [keyOf_app (t := .node op ks) (ex := [.node op ks]) hmem]
          · rw [List.map_append, X.refs]; rfl
          · by_cases hjl : j < xs.length
            · rw [List.getElem?_append_left hjl] at hj; exact X.vals j x hj
            · have hj' : j = xs.length := by
                have := (List.getElem?_eq_some_iff.mp hj).1
                simp at this; omega
              subst hj'
              simp at hj
              subst hj
              exact ⟨t9, by rw [hxl, ← hnl]⟩
        exact ((NX.kx k9 (Ne.symm nn3)).kx k9_12 nm4).kx k12_17 nm5
      · intro v hv
        rcases List.mem_append.mp hv with h1 | h1
        · exact hwv v h1
        · rw [List.mem_singleton] at h1; exact ⟨_, _, h1⟩
      · rw [List.length_append, List.length_append, hwl]; rfl
      · intro v hv
        rcases List.mem_append.mp hv with h1 | h1
        · exact hdv v h1
        · rw [List.mem_singleton] at h1; exact ⟨_, _, h1⟩
      · rw [List.length_append, List.length_append, hdl]; rfl
end
end Mine

namespace Mine

mutual
def putT : List Tree → Tree → List Tree
  | tr, .node op ks => onceTStep (putL tr ks) (.node op ks)
def putL : List Tree → List Tree → List Tree
  | tr, [] => tr
  | tr, k :: ks => putL (putT tr k) ks
end
theorem putL_snoc (k : Tree) : ∀ (l tr : List Tree), putL tr (l ++ [k]) = putT (putL tr l) k
  | [], tr => by show putL tr [k] = putT (putL tr []) k; rw [putL, putL, putL]
  | a :: l, tr => by show putL tr (a :: (l ++ [k])) = _; rw [putL, putL_snoc k l, putL]
theorem once_app (tr : List Tree) (x : Tree) : ∃ ex, onceTStep tr x = tr ++ ex := by
  unfold onceTStep; split
  · exact ⟨[], by simp⟩
  · exact ⟨_, rfl⟩
mutual
theorem putT_app : ∀ (t : Tree) (tr : List Tree), ∃ ex, putT tr t = tr ++ ex
  | .node op ks, tr => by
    rw [putT]
    obtain ⟨e1, h1⟩ := putL_app ks tr
    obtain ⟨e2, h2⟩ := once_app (putL tr ks) (.node op ks)
    exact ⟨e1 ++ e2, by rw [h2, h1, List.append_assoc]⟩
theorem putL_app : ∀ (ks tr : List Tree), ∃ ex, putL tr ks = tr ++ ex
  | [], tr => ⟨[], by rw [putL]; simp⟩
  | k :: ks, tr => by
    rw [putL]
    obtain ⟨e1, h1⟩ := putT_app k tr
    obtain ⟨e2, h2⟩ := putL_app ks (putT tr k)
    exact ⟨e1 ++ e2, by rw [h2, h1, List.append_assoc]⟩
end
theorem mem_onceTStep {tr : List Tree} {x u : Tree} : u ∈ onceTStep tr x ↔ u ∈ tr ∨ u = x := by
  unfold onceTStep; split
  · rename_i h
    exact ⟨.inl, fun h' => h'.elim id fun e => e ▸ h⟩
  · simp
mutual
theorem mem_putT : ∀ (t : Tree) (tr : List Tree) (u : Tree), u ∈ putT tr t ↔ u ∈ tr ∨ u ∈ subs t
  | .node op ks, tr, u => by
    rw [putT, mem_onceTStep, mem_putL ks tr u, subs, List.mem_cons]
    constructor
    · rintro ((h | h) | h)
      · exact .inl h
      · exact .inr (.inr h)
      · exact .inr (.inl h)
    · rintro (h | h | h)
      · exact .inl (.inl h)
      · exact .inr h
      · exact .inl (.inr h)
theorem mem_putL : ∀ (ks tr : List Tree) (u : Tree), u ∈ putL tr ks ↔ u ∈ tr ∨ u ∈ subsL ks
  | [], tr, u => by rw [putL, subsL]; simp
  | k :: ks, tr, u => by
    rw [putL, mem_putL ks _ u, mem_putT k tr u, subsL, List.mem_append]
    constructor
    · rintro ((h | h) | h)
      · exact .inl h
      · exact .inr (.inl h)
      · exact .inr (.inr h)
    · rintro (h | h | h)
      · exact .inl (.inl h)
      · exact .inl (.inr h)
      · exact .inr h
end
theorem onceTStep_len (tr : List Tree) (x : Tree) : (onceTStep tr x).length ≤ tr.length + 1 := by
  unfold onceTStep; split
  · omega
  · simp
mutual
theorem putT_len : ∀ (t : Tree) (tr : List Tree), (putT tr t).length ≤ tr.length + (subs t).length
  | .node op ks, tr => by
    rw [putT, subs, List.length_cons]
    have h1 := putL_len ks tr
    have h2 := onceTStep_len (putL tr ks) (.node op ks)
    omega
theorem putL_len : ∀ (ks tr : List Tree), (putL tr ks).length ≤ tr.length + (subsL ks).length
  | [], tr => by rw [putL, subsL]; simp
  | k :: ks, tr => by
    rw [putL, subsL, List.length_append]
    have h1 := putT_len k tr
    have h2 := putL_len ks (putT tr k)
    omega
end
theorem self_mem (t : Tree) : t ∈ subs t := by cases t; rw [subs]; exact List.mem_cons_self
theorem subs_sub {t u : Tree} : u ∈ subs t → ∀ x ∈ subs u, x ∈ subs t := by
  revert u
  refine tree_ind (P := fun t => ∀ {u : Tree}, u ∈ subs t → ∀ x ∈ subs u, x ∈ subs t) (fun op ks ih u hu x hx => ?_) t
  rw [subs] at hu
  rcases List.mem_cons.mp hu with rfl | hu
  · exact hx
  · obtain ⟨k, hk, hu⟩ := mem_subsL.mp hu
    rw [subs]
    exact List.mem_cons_of_mem _ (mem_subsL.mpr ⟨k, hk, ih k hk hu x hx⟩)
def OkOps (t : Tree) : Prop := ∀ u ∈ subs t, okOp u.op = true ∧ u.op.cps.size ≤ 1000
theorem OkOps.kid {op : Str} {ks : List Tree} (h : OkOps (.node op ks)) {k : Tree} (hk : k ∈ ks) : OkOps k := fun u hu => h u (by rw [subs]; exact List.mem_cons_of_mem _ (mem_subsL.mpr ⟨k, hk, hu⟩))
theorem IsNum.app {tr ex : List Tree} {k : Tree} {v : Value} (x : IsNum tr k v) (h : k ∈ tr) : IsNum (tr ++ ex) k v := by
  obtain ⟨u, e⟩ := x; exact ⟨u, by rw [idx_app h]; exact e⟩

section
variable {w : World} {A : Around} {s : Shared} {h : Heap} {tk : Nat} {h0 : Heap} {R : Result → Shared → Prop} {E : Value → Shared → Prop} {env : Env} {b dx an am aw ad : Addr} {tr : List Tree}
theorem fi_take (w : World) : findIn (kf w.params) (.ref 198) (Str.ofString "take") = some (some (.ref 122)) := by k_is
theorem ty_take (w : World) : typeIn (kf w.params) (.ref 122) = some (.type "function") := by k_is
theorem ke_take (w : World) : keepIn (kf w.params) (.ref 122) = true := by k_is
theorem no_take : NoOwn (Str.ofString "take") := fun _ _ _ _ _ _ _ _ _ _ _ _ _ => rfl
theorem fi_pa (w : World) : findIn (kf w.params) (.ref 198) (Str.ofString "put_all") = some (some (.ref 141)) := by k_is
theorem ty_pa (w : World) : typeIn (kf w.params) (.ref 141) = some (.type "function") := by k_is
theorem ke_pa (w : World) : keepIn (kf w.params) (.ref 141) = true := by k_is
theorem no_pa : NoOwn (Str.ofString "put_all") := fun _ _ _ _ _ _ _ _ _ _ _ _ _ => rfl

abbrev PutAllSpec (w : World) (h0 : Heap) (t : Tree) : Prop := ∀ {A : Around} {s : Shared} {h : Heap} {tk : Nat} {R : Result → Shared → Prop} {v : Value} {b dx an am aw ad : Addr} {tr : List Tree}, Rm (ht t + 3) A → Bs (kf w.params) h0 h → Bank w h0 h b dx an am aw ad tr →
    IsT h t v → tr.length + (subs t).length ≤ 100 → OkOps t →
    (∀ h' tk' u, Bank w h0 h' b dx an am aw ad (putT tr t) → Kx (Mut an am aw ad) h h' → R (.ok (.ret (.int (idx (putT tr t) t : Nat) u))) (Sh s h' tk')) →
    codeAny (model prg w) A (.call (.ref 141) ⟨[.ref b, v], []⟩) R (Sh s h tk)

theorem Bank.offM {w : World} {h0 h : Heap} {b dx an am aw ad : Addr} {tr : List Tree} (K : Bank w h0 h b dx an am aw ad tr) : Off h0 (Mut an am aw ad) := fun c hc => by
  rcases hc with rfl | rfl | rfl | rfl <;> exact K.off _ (by simp)

theorem put_all_spec {w : World} {h0 : Heap} : ∀ t, PutAllSpec w h0 t := by
  refine tree_ind fun op ks ih => ?_
  intro A s h tk R v b dx an am aw ad tr r B K hT hsz hok hR
  rw [ht] at r
  obtain ⟨a, to, kvs, rfl, Ta0, ik0⟩ := hT.open
  refine enter r B (by k_is) (by k_is) (binds := [(Str.ofString "self", .ref b), (Str.ofString "t", .ref a)]) rfl (by rfl) (fun L h₁ tk₁ hL r₁ B₁ k₁ hm F => ?_)
  have hszL : (subs (.node op ks)).length = (subsL ks).length + 1 := by rw [subs]; rfl
  have hkl : kvs.length ≤ 100 := by
    have := ik0.length
    have h1 := len_le_subsL ks
    show kvs.length ≤ 100
    rw [this]; show ks.length ≤ 100; omega
  have Ta1 := Ta0.kx k₁
  have ik1 : IsTs h₁ ks kvs := ik0.kx k₁
  have K₁ := K.non k₁
  have c1 : h₁.IsCell (L + 1) (some (.ref b)) := F.cell (Str.ofString "self") (L + 1) (by rfl)
  have hop := hok _ (self_mem (.node op ks))
  refine x_ret (e_meth (s := s) (fi_take w) (ty_take w) no_take (ke_take w) (nm_C c1 ⟨b, dx, an, am, aw, ad, h₁, tk₁, rfl, rfl, K₁.bk, B₁, ?_⟩))
  refine ar_cons (Subscript_ (nm_L F.ns (v := .ref a) rfl (e_int fun t2 tk2 => sub_tp Ta1 (by decide) (by decide) (x := .str op to) rfl (ar_cons (Call_ (nm_B B₁ g_tuple b_tuple ?_))))))
  refine PyProof.Rows.callWith_type1 (ar_cons (comp_W (s := s) (cl := [(Str.ofString "self", L + 1)]) rfl (by decide) (by decide) ?_))
  refine e_tail (nm_L F.ns (v := .ref a) rfl ⟨a, _, kvs, h₁, _, rfl, rfl, Ta1, by omega, fun h₂ c tk₂ tc hc k₂ => ?_⟩)
  have B₂ := k₂.bs B₁
  have K₂ := K₁.non k₂
  have hMlt : ∀ c', Mut an am aw ad c' → c' < h₂.objs.size := fun c' hc' => by
    rcases hc' with rfl | rfl | rfl | rfl <;> exact K₂.lt _ (by simp)
  have hMold : ∀ c', Mut an am aw ad c' → c' < h.objs.size := fun c' hc' => by
    rcases hc' with rfl | rfl | rfl | rfl <;> exact K.lt _ (by simp)
  have hMc : ∀ c', Mut an am aw ad c' → c' ≠ c := fun c' hc' e => by
    have h1 := hMold c' hc'
    have h2 : h₁.get? c = none := hc
    have h3 : h.get? c = none := k₁.gone h2
    rw [← e] at h3
    rcases hc' with rfl | rfl | rfl | rfl
    all_goals
      first
        | (obtain ⟨nv, _, _, es, ep, xs, ho, _⟩ := K.nodes; rw [ho] at h3; cases h3)
        | (obtain ⟨nv, ⟨n, ho⟩, _⟩ := K.nodes; rw [ho] at h3; cases h3)
        | (obtain ⟨nv, ⟨n, ho⟩, _⟩ := K.weights; rw [ho] at h3; cases h3)
        | (obtain ⟨nv, ⟨n, ho⟩, _⟩ := K.depths; rw [ho] at h3; cases h3)
  have hML : ∀ c', Mut an am aw ad c' → c' ≠ L + 1 := fun c' hc' e => by
    have := (hm (L + 1) (.inr ⟨Str.ofString "self", mem_of_lookup (by rfl)⟩)).1
    exact absurd (hMold c' hc') (Nat.not_lt.mpr (e ▸ this))
  refine ca_tp r₁.h tc (by omega) (Mut an am aw ad) (fun c' hc' => ⟨hMlt c' hc', hMc c' hc'⟩) (fun i ys h' => Bs (kf w.params) h0 h' ∧ Bank w h0 h' b dx an am aw ad (putL tr (ks.take i)) ∧ h'.IsCell (L + 1) (some (.ref b)) ∧ IsTs h' ks kvs ∧ Paired (IsNum (putL tr (ks.take i))) (ks.take i) ys)
    ⟨B₂, by rw [List.take_zero, putL]; exact K₂, Cell.kx c1 k₂ (fun h => h), ik1.kx k₂, by rw [List.take_zero]; exact .nil⟩ (fun i ys h' h'' ⟨q1, q2, q3, q4, q5⟩ k => ?_) (fun i u ys h4 tk4 m4 hu ⟨q1, q2, q3, q4, q5⟩ n4 e4 => ?_) (fun ys h4 tk4 D4 hD4 ⟨q1, q2, q3, q4, q5⟩ l4 k4 => ?_)
  · have old : ∀ b, b < h₂.objs.size → ¬ (h₂.objs.size ≤ b ∧ b ≤ h₂.objs.size + 2) := fun b hb h' => absurd hb (Nat.not_lt.mpr h'.1)
    exact ⟨q1.kx k fun b hb => B₂.off_new hb.1, q2.kx k fun c hc' => old _ (K₂.lt c hc'), Cell.kx q3 k (old _ (Cell.kx c1 k₂ fun h => h).lt), q4.kx k, q5⟩
  · obtain ⟨t', ht', it'⟩ := q4.get hu
    have hmem : t' ∈ ks := List.mem_of_getElem? ht'
    refine wpAny_tests_nil ?_
    rw [if_pos rfl]
    have htk : ks.take (i + 1) = ks.take i ++ [t'] := by rw [List.take_add_one, ht']; rfl
    have hput : putL tr (ks.take (i + 1)) = putT (putL tr (ks.take i)) t' := by rw [htk, putL_snoc]
    have hb1 := putL_len (ks.take i) tr
    have hb2 := subsL_take_le ks (i + 1)
    have hb3 : (subsL (ks.take (i + 1))).length = (subsL (ks.take i)).length + (subs t').length := by rw [htk, subsL_append, List.length_append]; simp [subsL]
    refine e_meth (s := s) (fi_pa w) (ty_pa w) no_pa (ke_pa w) (nm_C q3 ⟨b, dx, an, am, aw, ad, h4, tk4, rfl, rfl, q2.bk, q1, ar_cons (nm_L n4 e4 (ar_nil ⟨q1, wpAny_call ?_⟩))⟩)
    refine ih t' hmem (r₁.le (by have := ht_le_of_mem hmem; omega)) q1 q2 it' (by omega) (hok.kid hmem) fun h5 tk5 u5 K5 k5 => ?_
    refine ⟨h5, tk5, rfl, k5, q1.kx k5 K.offM, by rw [hput]; exact K5, Cell.kx q3 k5 (fun hc' => hML _ hc' rfl), q4.kx k5, ?_⟩
    rw [hput, htk]
    obtain ⟨ex, hex⟩ := putT_app t' (putL tr (ks.take i))
    refine Paired.app (Paired.mem_imp q5 fun k v hk x => ?_) (.cons ⟨u5, rfl⟩ .nil)
    rw [hex]
    exact x.app ((mem_putL _ _ _).mpr (.inr (mem_subsL.mpr ⟨k, hk, self_mem k⟩)))
  · have hkk : kvs.length = ks.length := ik0.length
    rw [hkk, List.take_length] at q2 q5
    have hyl : ys.length = ks.length := (Paired.length q5).symm
    refine ar_nil (call_tuple l4 (by omega) fun h5 c5 t5 hc5 k5 => ar_nil ⟨(q1.non k5), wpAny_call ?_⟩)
    have K5 := q2.non k5
    have hb1 := putL_len ks tr
    refine take_spec (n := htL ks) (r₁.le (by omega)) (q1.non k5) K5 hop.2 hop.1 t5 q5 (fun k hk => (mem_putL _ _ _).mpr (.inr (mem_subsL.mpr ⟨k, hk, self_mem k⟩))) (by omega) (by have := len_le_subsL ks; omega) fun h6 tk6 u6 K6 k6 => ?_
    have hp : putT tr (.node op ks) = onceTStep (putL tr ks) (.node op ks) := by rw [putT]
    rw [hp] at hR
    exact hR h6 tk6 u6 K6 ((((k₁.trans k₂).ofNon.trans k4).trans k5.ofNon).trans k6)
end
end Mine

namespace Mine

section
variable {w : World} {A : Around} {s : Shared} {h : Heap} {tk : Nat} {h0 : Heap} {R : Result → Shared → Prop} {E : Value → Shared → Prop} {env : Env} {b dx an am aw ad : Addr} {tr : List Tree}

theorem fi_init (w : World) : findIn (kf w.params) (.ref 198) "__init__" = some (some (.ref 110)) := by k_is
theorem ty_init (w : World) : typeIn (kf w.params) (.ref 110) = some (.type "function") := by k_is

/-- a dict display of nothing -/
theorem e_dict0 {pos : Pos} {Q : Value → Shared → Prop} (hQ : ∀ h', h'.get? h.objs.size = some emptyDict → Kx Non h h' → Q (.ref h.objs.size) (Sh s h' tk)) : wpAny (model prg w) A (eval (.Dict [] [] pos) env) Q E (Sh s h tk) :=
  wpAny_Dict_empty (hQ _ (Heap.get?_push_size _ rfl) (Kx.push _ _))

theorem init_spec {x : Addr} {n : Nat} (r : Rm (n + 1) A) (B : Bs (kf w.params) h0 h) (hx : h.get? x = some (instObj 198 dx)) (hdx : h.get? dx = some emptyDict) (hox : h0.get? x = none) (hod : h0.get? dx = none) (hne : x ≠ dx)
    (hR : ∀ h' tk' an am aw ad, BkAt h' x dx an am aw ad → Ls h' an [] → h'.get? am = some emptyDict → Ls h' aw [] → Ls h' ad [] → [x, dx, an, am, aw, ad].Nodup → (∀ c ∈ [an, am, aw, ad], h.get? c = none) → h.objs.size ≤ am → Kx (· = dx) h h' → R (.ok (.ret .none)) (Sh s h' tk')) :
    codeAny (model prg w) A (.call (.ref 110) ⟨[.ref x], []⟩) R (Sh s h tk) := by
  refine enter r B (by k_is) (by k_is) (binds := [(Str.ofString "self", .ref x)]) rfl (by rfl) (fun L h₁ tk₁ hL r₁ B₁ k₁ hm F => ?_)
  have nod : ∀ c, F.own c → c ≠ dx := fun c hc e => by
    have := get_none_of_ge (hm c hc).1
    rw [e, hdx] at this; cases this
  have I₁ := k₁.all _ _ hx
  have D₁ := k₁.all _ _ hdx
  refine wpAny_execs_cons (plainObj_wpAny_Assign_Attribute (e_nil (s := s) fun h₂ l2 k₂ => nm_L (F.non k₂).ns (v := .ref x) rfl ?_))
  have B₂ := k₂.bs B₁
  refine set_inst (K := kf w.params) (C := 198) (ox := instObj 198 dx) (es := []) (n := 0) (es' := _) (n' := _) B₂.inK ⟨k₂.all _ _ I₁, rfl, rfl, k₂.all _ _ D₁⟩ rfl (bk_sa w) (bk_over w) (tk_nodes w) (bk_dict w) rfl rfl rfl (by show 1 ≤ 1000; decide) fun h₃ D₃ k₃ => ?_
  have F3 := (F.non k₂).kx k₃ fun c hc hm' => nod c hm' hc
  have B₃ := B₂.kx k₃ fun c hc => hc ▸ hod
  have I₃ := k₃.k _ _ (show ¬ x = dx from hne) (k₂.all _ _ I₁)
  refine wpAny_execs_cons (plainObj_wpAny_Assign_Attribute (e_dict0 (s := s) fun h₄ l4 k₄ => nm_L (F3.non k₄).ns (v := .ref x) rfl ?_))
  have B₄ := k₄.bs B₃
  refine set_inst (K := kf w.params) (C := 198) (ox := instObj 198 dx) (es' := _) (n' := _) B₄.inK ⟨k₄.all _ _ I₃, rfl, rfl, k₄.all _ _ D₃⟩ rfl (bk_sa w) (bk_over w) (tk_numbers w) (bk_dict w) rfl rfl rfl (by show 2 ≤ 1000; decide) fun h₅ D₅ k₅ => ?_
  have F5 := (F3.non k₄).kx k₅ fun c hc hm' => nod c hm' hc
  have B₅ := B₄.kx k₅ fun c hc => hc ▸ hod
  have I₅ := k₅.k _ _ (show ¬ x = dx from hne) (k₄.all _ _ I₃)
  refine wpAny_execs_cons (plainObj_wpAny_Assign_Attribute (e_nil (s := s) fun h₆ l6 k₆ => nm_L (F5.non k₆).ns (v := .ref x) rfl ?_))
  have B₆ := k₆.bs B₅
  refine set_inst (K := kf w.params) (C := 198) (ox := instObj 198 dx) (es' := _) (n' := _) B₆.inK ⟨k₆.all _ _ I₅, rfl, rfl, k₆.all _ _ D₅⟩ rfl (bk_sa w) (bk_over w) (tk_weights w) (bk_dict w) rfl rfl rfl (by show 3 ≤ 1000; decide) fun h₇ D₇ k₇ => ?_
  have F7 := (F5.non k₆).kx k₇ fun c hc hm' => nod c hm' hc
  have B₇ := B₆.kx k₇ fun c hc => hc ▸ hod
  have I₇ := k₇.k _ _ (show ¬ x = dx from hne) (k₆.all _ _ I₅)
  refine wpAny_execs_cons (plainObj_wpAny_Assign_Attribute (e_nil (s := s) fun h₈ l8 k₈ => nm_L (F7.non k₈).ns (v := .ref x) rfl ?_))
  have B₈ := k₈.bs B₇
  refine set_inst (K := kf w.params) (C := 198) (ox := instObj 198 dx) (es' := _) (n' := _) B₈.inK ⟨k₈.all _ _ I₇, rfl, rfl, k₈.all _ _ D₇⟩ rfl (bk_sa w) (bk_over w) (tk_depths w) (bk_dict w) rfl rfl rfl (by show 4 ≤ 1000; decide) fun h₉ D₉ k₉ => wpAny_execs_nil ?_
  have I₉ := k₉.k _ _ (show ¬ x = dx from hne) (k₈.all _ _ I₇)
  -- who is where
  have z3 : Kx (· = dx) h h₃ := (k₁.trans k₂).ofNon.trans k₃
  have z5 : Kx (· = dx) h h₅ := (z3.trans k₄.ofNon).trans k₅
  have z7 : Kx (· = dx) h h₇ := (z5.trans k₆.ofNon).trans k₇
  have z9 : Kx (· = dx) h h₉ := (z7.trans k₈.ofNon).trans k₉
  have xlt : @LT.lt Nat _ x h.objs.size := Heap.lt_size hx
  have dlt : @LT.lt Nat _ dx h.objs.size := Heap.lt_size hdx
  have x1 : @LT.lt Nat _ x h₁.objs.size := Heap.lt_size I₁
  have d1 : @LT.lt Nat _ dx h₁.objs.size := Heap.lt_size D₁
  have n1 : h₁.objs.size ≠ dx := fun e => Nat.lt_irrefl _ (e ▸ d1)
  have l3 : Ls h₃ h₁.objs.size [] := l2.kx k₃ n1
  have a3 : @LT.lt Nat _ h₁.objs.size h₃.objs.size := l3.lt
  have n3 : h₃.objs.size ≠ dx := fun e => Nat.lt_irrefl _ (Nat.lt_trans d1 (e ▸ a3))
  have l5 : h₅.get? h₃.objs.size = some emptyDict := k₅.k _ _ n3 l4
  have a5 : @LT.lt Nat _ h₃.objs.size h₅.objs.size := Heap.lt_size l5
  have n5 : h₅.objs.size ≠ dx := fun e => Nat.lt_irrefl _ (Nat.lt_trans (Nat.lt_trans d1 a3) (e ▸ a5))
  have l7 : Ls h₇ h₅.objs.size [] := l6.kx k₇ n5
  have a7 : @LT.lt Nat _ h₅.objs.size h₇.objs.size := l7.lt
  have n7 : h₇.objs.size ≠ dx := fun e => Nat.lt_irrefl _ (Nat.lt_trans (Nat.lt_trans (Nat.lt_trans d1 a3) a5) (e ▸ a7))
  have y5_9 : Kx (· = dx) h₅ h₉ := ((k₆.ofNon.trans k₇).trans k₈.ofNon).trans k₉
  have y3_9 : Kx (· = dx) h₃ h₉ := (k₄.ofNon.trans k₅).trans y5_9
  have y7_9 : Kx (· = dx) h₇ h₉ := k₈.ofNon.trans k₉
  have g1 : h.get? h₁.objs.size = none := k₁.gone_ge (Nat.le_refl _)
  have gz : ∀ {c : Addr} {h' : Heap}, Kx (· = dx) h h' → h'.objs.size ≤ c → c ≠ dx → h.get? c = none := fun {c h'} z hc hne => by
    cases e : h.get? c with
    | none => rfl
    | some o => exact absurd (Heap.lt_size (z.k c o hne e)) (Nat.not_lt.mpr hc)
  refine hR h₉ _ h₁.objs.size h₃.objs.size h₅.objs.size h₇.objs.size ⟨I₉, _, _, _, _, _, _, _, _, _, D₉⟩ (l3.kx y3_9 n1) (y5_9.k _ _ n3 l5) (l7.kx y7_9 n5) (l8.kx k₉ n7) ?_ (fun c hc => ?_) (Nat.le_of_lt (Nat.lt_trans (Nat.lt_of_le_of_lt (hm L (.inl rfl)).1 (hm L (.inl rfl)).2) a3)) z9
  · have q1 : x ≠ h₁.objs.size := Nat.ne_of_lt x1
    have q3 : x ≠ h₃.objs.size := Nat.ne_of_lt (Nat.lt_trans x1 a3)
    have q5 : x ≠ h₅.objs.size := Nat.ne_of_lt (Nat.lt_trans (Nat.lt_trans x1 a3) a5)
    have q7 : x ≠ h₇.objs.size := Nat.ne_of_lt (Nat.lt_trans (Nat.lt_trans (Nat.lt_trans x1 a3) a5) a7)
    have p35 : h₁.objs.size ≠ h₅.objs.size := Nat.ne_of_lt (Nat.lt_trans a3 a5)
    have p37 : h₁.objs.size ≠ h₇.objs.size := Nat.ne_of_lt (Nat.lt_trans (Nat.lt_trans a3 a5) a7)
    have p57 : h₃.objs.size ≠ h₇.objs.size := Nat.ne_of_lt (Nat.lt_trans a5 a7)
    have p1 : h₁.objs.size ≠ h₃.objs.size := Nat.ne_of_lt a3
    have p2 : h₃.objs.size ≠ h₅.objs.size := Nat.ne_of_lt a5
    have p3 : h₅.objs.size ≠ h₇.objs.size := Nat.ne_of_lt a7
    simp only [List.nodup_cons, List.mem_cons, List.not_mem_nil, or_false, not_or, List.nodup_nil, not_false_eq_true, and_true]
    exact ⟨⟨hne, q1, q3, q5, q7⟩, ⟨Ne.symm n1, Ne.symm n3, Ne.symm n5, Ne.symm n7⟩, ⟨p1, p35, p37⟩, ⟨p2, p57⟩, p3⟩
  · simp only [List.mem_cons, List.not_mem_nil, or_false] at hc
    rcases hc with rfl | rfl | rfl | rfl
    · exact g1
    · exact gz z3 (Nat.le_refl _) n3
    · exact gz z5 (Nat.le_refl _) n5
    · exact gz z7 (Nat.le_refl _) n7

theorem make_bank {n : Nat} (r : Rm (n + 2) A) (B : Bs (kf w.params) h0 h)
    (hR : ∀ h' tk' b dx an am aw ad, Bank w h0 h' b dx an am aw ad [] → (∀ c ∈ [b, dx, an, am, aw, ad], h.get? c = none) → Kx Non h h' → R (.ok (.ret (.ref b))) (Sh s h' tk')) :
    codeAny (model prg w) A (.call (.ref 198) ⟨[], []⟩) R (Sh s h tk) := by
  refine make_core (h := h) (makes_of B.inK (bk_makes w)) (looks_findIn B.inK (fi_init w)) (fun self => bind_fn B.inK self (ty_init w)) (.inl rfl) ?_
  have r' : Rm (n + 1) (A.under (.builtin "type.__call__" ⟨.ref 198 :: [], []⟩)) := by
    obtain ⟨h1, h2, h3⟩ := r
    refine ⟨h1, ?_, ?_⟩
    · show A.depth + 1 + (n + 1) ≤ 900; omega
    · show A.units + 1 + 20 * (n + 1) ≤ 9000; omega
  have kp := (Kx.push h emptyDict).trans (Kx.push (h.push emptyDict) (instObj 198 h.objs.size))
  have hsz : (h.push emptyDict).objs.size = h.objs.size + 1 := Heap.size_push ..
  have hx : ((h.push emptyDict).push (instObj 198 h.objs.size)).get? (h.objs.size + 1) = some (instObj 198 h.objs.size) := by rw [← hsz]; exact Heap.get?_push_size _ rfl
  have hdx : ((h.push emptyDict).push (instObj 198 h.objs.size)).get? h.objs.size = some emptyDict := Heap.get?_push_of_some _ (Heap.get?_push_size _ rfl)
  refine init_spec (s := s) (tk := tk) (n := n) r' (B.non kp) hx hdx (B.off_new (Nat.le_succ _)) (B.off_new (Nat.le_refl _)) (Nat.succ_ne_self _) fun h' tk' an am aw ad bk ln lm lw ld nd hnew hge k => ?_
  have kk : Kx Non h h' := kp.more k fun c hc => hc ▸ get_none_of_ge (Nat.le_refl _)
  refine ⟨rfl, hR h' tk' (h.objs.size + 1) h.objs.size an am aw ad ⟨bk, TrOk.nil, ⟨[], ln, .nil, #[], 0, [], lm, rfl, rfl, rfl, fun i x e => by simp at e⟩, ⟨[], lw, (fun v hv => absurd hv (by simp)), rfl⟩, ⟨[], ld, (fun v hv => absurd hv (by simp)), rfl⟩, nd, fun c hc => ?_, ?_⟩ (fun c hc => ?_) kk⟩
  · rcases List.mem_cons.mp hc with rfl | hc
    · exact B.off_new (Nat.le_succ _)
    · rcases List.mem_cons.mp hc with rfl | hc
      · exact B.off_new (Nat.le_refl _)
      · exact B.off_ge (kp.gone (hnew c hc))
  · exact (B.non kp).notSys hge
  · rcases List.mem_cons.mp hc with rfl | hc
    · exact get_none_of_ge (Nat.le_succ _)
    · rcases List.mem_cons.mp hc with rfl | hc
      · exact get_none_of_ge (Nat.le_refl _)
      · exact kp.gone (hnew c hc)
end
end Mine

namespace Mine

section
variable {w : World} {A : Around} {s : Shared} {h : Heap} {tk : Nat} {h0 : Heap} {R : Result → Shared → Prop} {E : Value → Shared → Prop} {env : Env} {b dx an am aw ad : Addr} {tr : List Tree}

theorem put_ok {t : Tree} {v : Value} (r : Rm (ht t + 4) A) (B : Bs (kf w.params) h0 h) (K : Bank w h0 h b dx an am aw ad tr) (hT : IsT h t v) (hsz : tr.length + (subs t).length ≤ 100) (hht : ht t ≤ 50) (hok : OkOps t)
    (hR : ∀ h' tk' u, Bank w h0 h' b dx an am aw ad (putT tr t) → Kx (Mut an am aw ad) h h' → R (.ok (.ret (.int (idx (putT tr t) t : Nat) u))) (Sh s h' tk')) :
    codeAny (model prg w) A (.call (.ref 136) ⟨[.ref b, v], []⟩) R (Sh s h tk) := by
  refine enter r B (by k_is) (by k_is) (binds := [(Str.ofString "self", .ref b), (Str.ofString "t", v)]) rfl (by rfl) (fun L h₁ tk₁ hL r₁ B₁ k₁ hm F => ?_)
  have hL1 : ∀ b, F.own b → h.get? b = none := fun b hb => get_none_of_ge (hm b hb).1
  refine x_for (Call_ (nm_K B₁ g_parts (cw_K (K := kf w.params) (h0 := h0) k_parts (ar_cons (nm_L F.ns (v := v) rfl (ar_nil ⟨B₁, wpAny_call ?_⟩))))))
  refine parts_spec t (r₁.le (by omega)) B₁ (hT.kx k₁) (by omega) (by omega) fun h₂ tk₂ D vs hD l2 pv k₂ => ?_
  have F2 := F.non k₂
  have kk2 := k₁.trans k₂
  have hlen : vs.length = (subs t).length := (Paired.length pv).symm
  refine for_ls r₁.h l2 (.inr ⟨⟨_, _, _, rfl⟩, fun v' hv' => ?_⟩) F.own (fun c hc => ⟨F2.lt hc, fun e => ?_⟩)
    (fun i h' => ∃ m' cm', Fx F.env m' cm' h' ∧ m' (Str.ofString "self") = some (.ref b) ∧ m' (Str.ofString "t") = some v ∧ PartsV (ht t) h' (subs t) vs ∧ Kx Non h h') ⟨_, _, F2, rfl, rfl, pv, kk2⟩ ?_ ?_ ?_
  · obtain ⟨i, hi⟩ := List.mem_iff_getElem?.mp hv'
    obtain ⟨u, _, b', _, _, _, e, _⟩ := Paired.get' pv hi
    exact ⟨b', e⟩
  · obtain ⟨o, ho⟩ := F.live hc
    rw [e, hD] at ho; cases ho
  · rintro i h8 h9 ⟨m', cm', F', e1, e2, pv', kk⟩ k
    exact ⟨m', cm', F'.kx k fun c hc hm' => Nat.lt_irrefl _ (hc ▸ F2.lt hm'), e1, e2, pv'.kx k, kk.more k fun c hc => hc ▸ kk2.gone_ge (Nat.le_refl _)⟩
  · rintro i v' h8 tk8 hv ⟨m', cm', F', e1, e2, pv', kk⟩
    obtain ⟨u, hu, b', p', path, vt, rfl, tb, tpath, hpl, iu⟩ := Paired.get' pv' hv
    have hmem : u ∈ subs t := List.mem_of_getElem? hu
    refine as_T2 r₁.h tb fun h9 k9 => as_L (F'.non k9) fun h10 tk10 F10 k10 => as_L F10 fun h11 tk11 F11 k11 => ?_
    have m11 : Kx F.own h8 h11 := (k9.ofNon.trans (k10.mono fun c hc => .inl hc)).trans (k11.mono fun c hc => .inl hc)
    have kk11 := kk.more m11 hL1
    obtain ⟨a, to, kvs, rfl, Ta, ik⟩ := (iu.kx m11).open
    have hop := hok u hmem
    refine x_expr (e_meth (s := s) (fi_req w) (ty_req w) no_req (ke_req w) (nm_L F11.ns (v := .ref b) ((if_neg (by decide)).trans ((if_neg (by decide)).trans e1)) ⟨b, dx, an, am, aw, ad, h11, tk11, rfl, rfl, (K.non kk11).bk, kk11.bs B, ?_⟩))
    refine ar_cons (Subscript_ (nm_L F11.ns (v := .ref a) (if_pos rfl) (e_int fun t12 tk12 => sub_tp Ta (by decide) (by decide) (x := .str u.op to) rfl (ar_nil ⟨kk11.bs B, wpAny_call ?_⟩))))
    refine require_ok (n := ht t + 1) r₁ (kk11.bs B) hop.2 hop.1 fun h13 tk13 k13 => ⟨rfl, wpAny_execs_nil ?_⟩
    exact ⟨h13, tk13, rfl, m11.trans k13.ofNon, _, _, F11.non k13, (if_neg (by decide)).trans ((if_neg (by decide)).trans e1), (if_neg (by decide)).trans ((if_neg (by decide)).trans e2), (pv'.kx m11).kx k13, kk11.trans k13⟩
  · rintro h' tk' ⟨m', cm', F', e1, e2, pv', kk⟩
    have B' := kk.bs B
    refine x_ret (e_meth (s := s) (fi_pa w) (ty_pa w) no_pa (ke_pa w) (nm_L F'.ns e1 ⟨b, dx, an, am, aw, ad, h', tk', rfl, rfl, (K.non kk).bk, B', ar_cons (nm_L F'.ns e2 (ar_nil ⟨B', wpAny_call ?_⟩))⟩))
    exact put_all_spec t r₁ B' (K.non kk) (hT.kx kk) hsz hok fun h'' tk'' u K'' k'' => hR h'' tk'' u K'' (kk.ofNon.trans k'')
end
end Mine

namespace Mine

section
variable {w : World} {A : Around} {s : Shared} {h : Heap} {tk : Nat} {h0 : Heap} {R : Result → Shared → Prop} {E : Value → Shared → Prop} {env : Env} {b dx an am aw ad : Addr} {tr : List Tree}

theorem dict_lt {K : Type} [DecidableEq K] {knd : KeyKind prg w K} {d : Addr} {kvs : List (K × Value)} (D : h.DictOf knd d kvs) : d < h.objs.size := let ⟨_, _, _, ho, _⟩ := D; Heap.lt_size ho
theorem dict_kx {K : Type} [DecidableEq K] {knd : KeyKind prg w K} {P : Addr → Prop} {h' : Heap} {d : Addr} {kvs : List (K × Value)} (D : h.DictOf knd d kvs) (k : Kx P h h') (hd : ¬ P d) : h'.DictOf knd d kvs := let ⟨o, es, ep, ho, r⟩ := D; ⟨o, es, ep, k.k d o hd ho, r⟩
theorem dict_not_tp {K : Type} [DecidableEq K] {knd : KeyKind prg w K} {d : Addr} {kvs : List (K × Value)} (D : h.DictOf knd d kvs) : ∀ vs, ¬ Tp h d vs := let ⟨_, _, _, ho, hc, _⟩ := D; not_tp_of_cls ho (by rw [hc.1]; decide)

/-- sorted(d) of a dict by ints -/
theorem call_sorted_dict {d : Addr} {kvs : List (Int × Value)} {Q : Value → Shared → Prop} (hh : A.handled = none) (D : h.DictOf (intKind prg w) d kvs) (lo : (d == sysModules) = false) (hl : kvs.length < 64)
    (hQ : ∀ h' tk' a vs ns, Ls h' a vs → IntsAre vs ns → ns.Perm (kvs.map (·.1)) → ns.Pairwise (· ≤ ·) → h.get? a = none → Kx Non h h' → Q (.ref a) (Sh s h' tk')) :
    wpAny (model prg w) A (call (.builtin "sorted") [.ref d]) Q E (Sh s h tk) := by
  obtain ⟨o, es, ep, ho, hc, hd, hk, hp, hn⟩ := D
  refine call_function_entry kind_sorted plain_sorted entry_sorted (args_sorted1 _) ?_
  unfold Builtin.«sorted»
  refine wpAny_bind (m := checkCount "sorted" 1 1 _) (wpAny_pure ?_)
  refine wpAny_bind (kdu_collect (A := A.in1) (s := Sh s h tk) (kdl_dict (knd := intKind prg w) (d := d) (kvs := kvs) (ep := ep) lo) hh ⟨o, es, ho, hc, hd, hk, hp, hn⟩ (by rw [sizeLine_eq]; omega) fun h' tk' acc k hacc => ?_)
  have hlen : acc.toList.length = kvs.length := by rw [Array.length_toList]; exact hacc.1
  have hI : IntsAre acc.toList (kvs.map (·.1)) := by
    have all : ∀ (l : List Value) (kv : List (Int × Value)), l.length = kv.length → (∀ (j : Nat) (v : Value), l[j]? = some v → ∃ k x, kv[j]? = some (k, x) ∧ (intKind prg w).is k v = true) → IntsAre l (kv.map (·.1)) := by
      intro l
      induction l with
      | nil => intro kv e _; have : kv = [] := List.length_eq_zero_iff.mp e.symm; subst this; exact .nil
      | cons v l ih =>
        intro kv e hall
        cases kv with
        | nil => simp at e
        | cons p kv =>
          obtain ⟨k', x, e1, e2⟩ := hall 0 v rfl
          simp at e1; subst e1
          obtain ⟨t, rfl⟩ := Value.isInt_shape e2
          exact .cons k' t (ih kv (by simpa using e) fun j v hj => hall (j + 1) v (by simpa using hj))
    exact all _ _ hlen fun j v e => hacc.2 j v (by rw [← Array.getElem?_toList]; exact e)
  refine wpAny_bind (wpAny_newList ?_ (by rw [sizeLine_eq]; omega))
  have hoL : (h'.push (seqObj "list" acc.toList.toArray 0)).get? h'.objs.size = some (seqObj "list" acc.toList.toArray 0) := Heap.get?_push_size _ rfl
  refine wpAny_bind (wpAny_holding (wpAny_call_entry slot_list_sort ⟨_, hoL, rfl⟩ entry_list_sort (list_sort_tree hoL hI (by omega) fun out ns' a1 a2 a3 => ⟨_, rfl, ?_⟩) (args_list_sort _)))
  obtain ⟨b1, e, b2⟩ := sortedHeap_keeps (out := out) hoL
  have k0 : Kx Non h h' := .ofAll k
  have hD : h.get? h'.objs.size = none := k0.gone_ge (Nat.le_refl _)
  refine wpAny_pure ⟨_, rfl, hQ _ _ h'.objs.size out.toList ns' ⟨e, by rw [b2]⟩ a1 a2 a3 hD (.ofAll fun c o' ec => ?_)⟩
  refine b1 c o' (fun hb => ?_) (Heap.get?_push_of_some _ (k _ _ ec))
  rw [hb] at ec; rw [hD] at ec; cases ec

/-- {n: True} -/
theorem e_dict1 {ek ev : Expr} {pos : Pos} {Q : Value → Shared → Prop} (hk : ∀ h', Kx Non h h' → h'.get? h.objs.size = some emptyDict → wpAny (model prg w) A (eval ek env) (fun kv s₁ => ∃ n t tk₁, kv = .int n t ∧ s₁ = Sh s h' tk₁ ∧ wpAny (model prg w) A (eval ev env) (fun vv s₂ => ∃ tk₂, s₂ = Sh s h' tk₂ ∧
      ∀ h'' tk'', h''.DictOf (intKind prg w) h.objs.size [(n, vv)] → Kx Non h h'' → Q (.ref h.objs.size) (Sh s h'' tk'')) E s₁) E (Sh s h' tk)) :
    wpAny (model prg w) A (eval (.Dict [some ek] [ev] pos) env) Q E (Sh s h tk) := by
  refine wpAny_Dict_walk (knd := intKind prg w) rfl rfl (by simp) (by simp) ?_
  have g := Heap.get?_push_size h (o := emptyDict) rfl
  have k0 := Kx.push h emptyDict
  refine pairTrees_cons_walk (wpAny_mono (hk _ k0 g) (fun kv s₁ ⟨n, t, tk₁, e1, e2, x⟩ => ?_) fun _ _ z => z)
  subst e1 e2
  refine wpAny_mono x (fun vv s₂ ⟨tk₂, e3, y⟩ => ?_) fun _ _ z => z
  subst e3
  refine pairTrees_nil_walk ⟨[(n, vv)], ⟨by simp [intKind, Value.isInt], rfl, trivial⟩, ⟨_, #[], 0, g, ⟨rfl, rfl, rfl⟩, rfl, fun _ he => by simp at he, .nil, List.nodup_nil⟩, fun h'' D'' sb => ?_⟩
  refine y h'' _ (by simpa [merged, stored] using D'') (k0.more (Kx.same sb (not_tp_of_cls g (by decide))) fun c hc => hc ▸ get_none_of_ge (Nat.le_refl _))
end
end Mine

namespace Mine

theorem valueAt_stored {K : Type} [DecidableEq K] (k : K) (v : Value) (x : K) : ∀ kvs : List (K × Value), valueAt (stored kvs k v) x = if x = k then some v else valueAt kvs x := by
  intro kvs
  unfold stored
  split
  · rename_i hany
    induction kvs with
    | nil => simp at hany
    | cons p kvs ih =>
      unfold valueAt at ih ⊢
      rw [List.map_cons, List.find?_cons, List.find?_cons]
      by_cases hp : p.1 = k
      · simp only [hp, if_true]
        by_cases hx : x = k
        · subst hx; simp
        · have hx' : ¬ k = x := fun e => hx e.symm
          simp only [hx', decide_false, hx, if_false]
          have : ∀ l : List (K × Value), (l.map fun kv => if kv.1 = k then (kv.1, v) else kv).find? (fun kv => decide (kv.1 = x)) = l.find? fun kv => decide (kv.1 = x) := by
            intro l
            induction l with
            | nil => rfl
            | cons q l ih =>
              rw [List.map_cons, List.find?_cons, List.find?_cons, ih]
              by_cases hq : q.1 = k
              · simp [hq, hx']
              · simp [hq]
          rw [this]
      · simp only [hp, if_false]
        have hany' : kvs.any (fun kv => decide (kv.1 = k)) = true := by simpa [hp] using hany
        by_cases hx : p.1 = x
        · have : ¬ x = k := fun e => hp (hx.trans e)
          simp [hx, this]
        · simp only [hx, decide_false]
          exact ih hany'
  · rename_i hany
    unfold valueAt
    rw [List.find?_append]
    by_cases hx : x = k
    · subst hx
      have : kvs.find? (fun kv => decide (kv.1 = x)) = none := by
        rw [List.find?_eq_none]
        intro p hp hpx
        exact hany (List.any_eq_true.mpr ⟨p, hp, hpx⟩)
      rw [this]; simp
    · have : ¬ k = x := fun e => hx e.symm
      simp [hx, this]
theorem valueAt_none {K : Type} [DecidableEq K] {kvs : List (K × Value)} {k : K} (h : k ∉ kvs.map (·.1)) : valueAt kvs k = none := by
  unfold valueAt
  have : kvs.find? (fun kv => decide (kv.1 = k)) = none := by
    rw [List.find?_eq_none]
    intro p hp hpx
    exact h (List.mem_map.mpr ⟨p, hp, of_decide_eq_true hpx⟩)
  rw [this]; rfl
theorem valueAt_some {K : Type} [DecidableEq K] {kvs : List (K × Value)} {k : K} (h : k ∈ kvs.map (·.1)) : ∃ v, valueAt kvs k = some v := by
  unfold valueAt
  obtain ⟨p, hp, e⟩ := List.mem_map.mp h
  cases hf : kvs.find? (fun kv => decide (kv.1 = k)) with
  | none => exact absurd (decide_eq_true e) (List.find?_eq_none.mp hf p hp)
  | some q => exact ⟨q.2, rfl⟩
theorem stored_new_keys {K : Type} [DecidableEq K] {kvs : List (K × Value)} {k : K} (h : k ∉ kvs.map (·.1)) (v : Value) : (stored kvs k v).map (·.1) = kvs.map (·.1) ++ [k] := by
  unfold stored
  rw [if_neg (fun hany => by
    obtain ⟨p, hp, e⟩ := List.any_eq_true.mp hany
    exact h (List.mem_map.mpr ⟨p, hp, of_decide_eq_true e⟩))]
  simp

def ixs (tr us : List Tree) : List Int := us.map fun u => ((idx tr u : Nat) : Int)
theorem mem_ixs {tr us : List Tree} {u : Tree} (hu : u ∈ tr) (hs : ∀ x ∈ us, x ∈ tr) : ((idx tr u : Nat) : Int) ∈ ixs tr us ↔ u ∈ us := by
  unfold ixs
  rw [List.mem_map]
  constructor
  · rintro ⟨x, hx, e⟩
    exact idx_inj (hs x hx) hu (by omega) ▸ hx
  · exact fun h => ⟨u, h, rfl⟩

section
variable {w : World} {A : Around} {s : Shared} {h : Heap} {tk : Nat} {h0 : Heap} {R : Result → Shared → Prop} {E : Value → Shared → Prop} {env : Env} {b dx an am aw ad : Addr} {tr : List Tree}
theorem fi_kids (w : World) : findIn (kf w.params) (.ref 198) (Str.ofString "kids") = some (some (.ref 162)) := by k_is
theorem ty_kids (w : World) : typeIn (kf w.params) (.ref 162) = some (.type "function") := by k_is
theorem ke_kids (w : World) : keepIn (kf w.params) (.ref 162) = true := by k_is
theorem no_kids : NoOwn (Str.ofString "kids") := fun _ _ _ _ _ _ _ _ _ _ _ _ _ => rfl
theorem fi_op (w : World) : findIn (kf w.params) (.ref 198) (Str.ofString "op") = some (some (.ref 155)) := by k_is
theorem ty_op (w : World) : typeIn (kf w.params) (.ref 155) = some (.type "function") := by k_is
theorem ke_op (w : World) : keepIn (kf w.params) (.ref 155) = true := by k_is
theorem no_op : NoOwn (Str.ofString "op") := fun _ _ _ _ _ _ _ _ _ _ _ _ _ => rfl

theorem Paired.unsnoc {α β : Type} {F : α → β → Prop} {b : β} : ∀ {k : List β} {l : List α}, Paired F l (k ++ [b]) → ∃ l' a, l = l' ++ [a] ∧ Paired F l' k ∧ F a b
  | [], l, x => by
    cases x with
    | cons h t => cases t; exact ⟨[], _, rfl, .nil, h⟩
  | c :: k, l, x => by
    cases x with
    | cons h t =>
      obtain ⟨l', a, e, p, q⟩ := Paired.unsnoc t
      subst e
      exact ⟨_ :: l', a, rfl, .cons h p, q⟩
theorem term_spec {t : Tree} {tn : Tok} {n : Nat} (r : Rm (n + 2) A) (B : Bs (kf w.params) h0 h) (K : Bank w h0 h b dx an am aw ad tr) (hsz : tr.length ≤ 60) (ht' : t ∈ tr) (hkl : ∀ u ∈ tr, u.kids.length ≤ 100)
    (hR : ∀ h' tk' v, IsT h' t v → Kx Non h h' → R (.ok (.ret v)) (Sh s h' tk')) :
    codeAny (model prg w) A (.call (.ref 174) ⟨[.ref b, .int (idx tr t : Nat) tn], []⟩) R (Sh s h tk) := by
  refine enter r B (by k_is) (by k_is) (binds := [(Str.ofString "self", .ref b), (Str.ofString "n", .int (idx tr t : Nat) tn)]) rfl (by rfl) (fun L h₁ tk₁ hL r₁ B₁ k₁ hm F => ?_)
  have hL1 : ∀ b, F.own b → h.get? b = none := fun b hb => get_none_of_ge (hm b hb).1
  refine x_swap (s := s) (names := [Str.ofString "below", Str.ofString "stack"]) r₁.h ?_
  refine e_tuple (s := s) (ar_cons (e_dict1 fun h₂ k₂ g₂ => nm_L (F.non k₂).ns (v := .int (idx tr t : Nat) tn) rfl ⟨_, tn, tk₁, rfl, rfl, wpAny_Constant_bool ⟨tk₁, rfl, fun h₃ tk₃ D₃ k₃ => ?_⟩⟩))
  refine ar_cons (e_list (s := s) (ar_cons (nm_L (F.non k₃).ns (v := .int (idx tr t : Nat) tn) rfl (ar_nil ⟨h₃, tk₃, rfl, by simp, fun h₄ l4 k₄ => ar_nil ⟨h₄, tk₃, rfl, by simp, fun h₅ t5 k₅ => ⟨_, _, h₅, tk₃, rfl, rfl, t5, rfl, fun h₆ k₆ => ?_⟩⟩⟩))))
  have F6 := (((F.non k₃).non k₄).non k₅).non k₆
  refine in_order (bindName_ (st_L F6 fun h₇ tk₇ F7 k₇ => in_order (bindName_ (st_L F7 fun h₈ tk₈ F8 k₈ => in_order0 ?_))))
  have kk3 : Kx Non h h₃ := k₁.trans k₃
  have kk6 : Kx Non h h₆ := ((kk3.trans k₄).trans k₅).trans k₆
  have kk8 : Kx Non h h₈ := (kk6.more k₇ fun b hb => hL1 b (.inl hb)).more k₈ fun b hb => hL1 b (.inl hb)
  have hDn : h.get? h₁.objs.size = none := k₁.gone_ge (Nat.le_refl _)
  have hSn : h.get? h₃.objs.size = none := kk3.gone_ge (Nat.le_refl _)
  have hDS : h₁.objs.size ≠ h₃.objs.size := Nat.ne_of_lt (dict_lt D₃)
  have nD : ∀ b, F.own b → h₁.objs.size ≠ b := fun b hb => Nat.ne_of_gt (F.lt hb)
  have nS : ∀ b, F.own b → h₃.objs.size ≠ b := fun b hb => Nat.ne_of_gt (Nat.lt_trans (F.lt hb) (dict_lt D₃))
  have loD : (h₁.objs.size == sysModules) = false := B₁.notSys (Nat.le_refl _)
  have D8 : h₈.DictOf (intKind prg w) h₁.objs.size [((idx tr t : Nat), .bool true)] := dict_kx (dict_kx (D₃.keep ((k₄.trans k₅).trans k₆).all) k₇ (nD _ (.inl rfl))) k₈ (nD _ (.inl rfl))
  have l8 : Ls h₈ h₃.objs.size [.int (idx tr t : Nat) tn] := ((l4.kx (k₅.trans k₆) fun h => h).kx k₇ (nS _ (.inl rfl))).kx k₈ (nS _ (.inl rfl))
  let M : Addr → Prop := fun c => F.own c ∨ c = h₁.objs.size ∨ c = h₃.objs.size
  have hMn : ∀ c, M c → h.get? c = none := fun c hc => hc.elim (hL1 c) fun hc => hc.elim (fun e => e ▸ hDn) fun e => e ▸ hSn
  refine x_while (fun n h' => ∃ m' cm' us st kvs sv, Fx F.env m' cm' h' ∧ m' (Str.ofString "self") = some (.ref b) ∧ m' (Str.ofString "n") = some (.int (idx tr t : Nat) tn) ∧ m' (Str.ofString "below") = some (.ref h₁.objs.size) ∧ m' (Str.ofString "stack") = some (.ref h₃.objs.size) ∧
      h'.DictOf (intKind prg w) h₁.objs.size kvs ∧ kvs.map (·.1) = ixs tr us ∧ Ls h' h₃.objs.size sv ∧ Paired (IsNum tr) st sv ∧ us.Nodup ∧ (∀ u ∈ us, u ∈ tr) ∧ (∀ u ∈ st, u ∈ tr) ∧ t ∈ us ∧ (∀ u ∈ us, u ∈ st ∨ ∀ k ∈ u.kids, k ∈ us) ∧
      n = 2 * (tr.length - us.length) + st.length ∧ n ≤ 200 ∧ Kx Non h h') (2 * (tr.length - 1) + 1)
    ⟨_, _, [t], [t], _, _, F8, rfl, rfl, rfl, rfl, D8, rfl, l8, .cons ⟨tn, rfl⟩ .nil, by simp, by simpa using ht', by simpa using ht', by simp, by simp, rfl, by omega, kk8⟩ ?_
  rintro n' h9 tk9 ⟨m9, cm9, us, st, kvs, sv, F9, e1, e2, e3, e4, D9, hkv, l9, pst, hnd, hut, hst, htu, hcl, rfl, hb200, kk9⟩
  have hul : us.length ≤ tr.length := nodup_len_le hnd hut
  have hsl : sv.length = st.length := (Paired.length pst).symm
  have B9 := kk9.bs B
  have K9 := K.non kk9
  refine wpAny_isTrue_Compare1 (e_len B9 (nm_L F9.ns e4 (len_ls l9 (by omega) fun t10 tk10 => e_int fun t11 tk11 => gt_int (wpAny_truthy_bool ?_))))
  cases sv using snoc_ind with
  | h0 =>
    rw [if_neg (by simp)]
    have est : st = [] := List.length_eq_zero_iff.mp hsl.symm
    subst est
    have hclo : ∀ x ∈ us, ∀ k ∈ x.kids, k ∈ us := fun x hx => (hcl x hx).elim (fun h' => absurd h' (by simp)) id
    have hkl9 : kvs.length = us.length := by have := congrArg List.length hkv; simpa [ixs] using this
    refine x_set (e_dict0 (s := s) fun h10 g10 k10 => st_C (c := L + 1) (F9.non k10) fun h11 tk11 F11 k11 => ?_)
    have kk10 := kk9.trans k10
    have kk11 := kk10.more k11 fun c hc => hL1 c (.inr ⟨Str.ofString "made", by rw [hc]; exact mem_of_lookup (by rfl)⟩)
    have cl1 : F.own (L + 1) := .inr ⟨Str.ofString "made", mem_of_lookup (by rfl)⟩
    have hMn9 : h.get? h9.objs.size = none := kk9.gone_ge (Nat.le_refl _)
    have nM : ∀ c, F.own c → h9.objs.size ≠ c := fun c hc e => Nat.lt_irrefl _ (e ▸ F9.lt hc)
    have loM : (h9.objs.size == sysModules) = false := B9.notSys (Nat.le_refl _)
    have DM : h11.DictOf (intKind prg w) h9.objs.size [] := ⟨_, #[], 0, k11.k _ _ (nM _ cl1) g10, ⟨rfl, rfl, rfl⟩, rfl, fun _ he => by simp at he, .nil, List.nodup_nil⟩
    have D11 : h11.DictOf (intKind prg w) h₁.objs.size kvs := dict_kx (D9.keep k10.all) k11 (nD _ cl1)
    have c11 : h11.IsCell (L + 1) (some (.ref h9.objs.size)) := by
      have := F11.cell (Str.ofString "made") (L + 1) (by rfl)
      simpa using this
    refine x_for (Call_ (nm_B (kk11.bs B) g_sorted b_sorted (callWith_builtin1 (ar_cons (nm_L F11.ns e3 (ar_nil (call_sorted_dict r₁.h D11 loD (by omega) fun h12 tk12 c vs ns l12 hI hp hso hc12 k12 => ?_)))))))
    have kk12 := kk11.trans k12
    have F12 := F11.non k12
    have hnl : vs.length = ns.length := IntsAre.length hI
    have hnsl : ns.length = kvs.length := by rw [hp.length_eq, List.length_map]
    have hnmem : ∀ z, z ∈ ns ↔ z ∈ ixs tr us := fun z => by rw [← hkv]; exact hp.mem_iff
    let M2 : Addr → Prop := fun c => F.own c ∨ c = h9.objs.size
    have DM12 := DM.keep k12.all
    have hM2lt : ∀ c', M2 c' → c' < h12.objs.size := fun c' hc => hc.elim (fun hc => F12.lt hc) fun e => e ▸ dict_lt DM12
    have hM2n : ∀ c, M2 c → h.get? c = none := fun c hc => hc.elim (hL1 c) fun e => e ▸ hMn9
    have hcM2 : ∀ c', M2 c' → c' ≠ c := fun c' hc' e => by
      rcases hc' with hc' | rfl
      · obtain ⟨o, ho⟩ := F11.live hc'
        rw [e, hc12] at ho; cases ho
      · have := dict_lt DM
        obtain ⟨o, _, _, ho, _⟩ := DM
        rw [e, hc12] at ho; cases ho
    refine for_ls r₁.h l12 TgOk.name M2 (fun c' hc' => ⟨hM2lt c' hc', hcM2 c' hc'⟩) (fun i h' => ∃ m' cm' mk, Fx F.env m' cm' h' ∧ m' (Str.ofString "self") = some (.ref b) ∧ m' (Str.ofString "n") = some (.int (idx tr t : Nat) tn) ∧ h'.IsCell (L + 1) (some (.ref h9.objs.size)) ∧
        h'.DictOf (intKind prg w) h9.objs.size mk ∧ mk.length ≤ i ∧ (∀ x ∈ us, (∃ j, j < i ∧ ns[j]? = some ((idx tr x : Nat) : Int)) → ∃ v, valueAt mk ((idx tr x : Nat) : Int) = some v ∧ IsT h' x v) ∧ Kx Non h h')
      ⟨_, _, [], F12, e1, e2, Cell.kx c11 k12 (fun h => h), DM12, Nat.le_refl _, fun x _ ⟨j, hj, _⟩ => absurd hj (Nat.not_lt_zero _), kk12⟩ ?_ ?_ ?_
    · rintro i h13 h14 ⟨m', cm', mk, G, a1, a2, a3, a4, a5, a6, a7⟩ k
      have old : ∀ c, M2 c → ¬ c = h12.objs.size := fun c hc e => Nat.lt_irrefl _ (e ▸ hM2lt c hc)
      exact ⟨m', cm', mk, G.kx k fun c hc hm' => old c (.inl hm') hc, a1, a2, Cell.kx a3 k (old _ (.inl cl1)), dict_kx a4 k (old _ (.inr rfl)), a5, fun x hx hj => (a6 x hx hj).imp fun v ⟨p, q⟩ => ⟨p, q.kx k⟩, a7.more k fun c hc => hc ▸ kk12.gone_ge (Nat.le_refl _)⟩
    · rintro i v h13 tk13 hv ⟨m', cm', mk, G, a1, a2, a3, a4, a5, a6, a7⟩
      obtain ⟨kt, rfl⟩ := IntsAre.int_at hI i v hv
      have hil : i < ns.length := by rw [← hnl]; exact (List.getElem?_eq_some_iff.mp hv).1
      have hni : ns[i]? = some (ns.getD i 0) := by rw [List.getD_eq_getElem?_getD, List.getElem?_eq_getElem hil]; rfl
      obtain ⟨u, hu, eu⟩ := List.mem_map.mp ((hnmem _).mp (List.mem_of_getElem? hni))
      have eu' : ns.getD i 0 = ((idx tr u : Nat) : Int) := eu.symm
      rw [eu'] at hni ⊢
      have hut' := hut u hu
      refine as_L G fun h14 tk14 F14 k14 => ?_
      have kk14 := a7.more k14 fun c hc => hL1 c (.inl hc)
      have nself : ¬ (L + 1 = F.env.locals) := fun e => by
        have : F.env.locals < L + 1 := F.above (Str.ofString "made") (L + 1) (mem_of_lookup (by rfl))
        exact Nat.lt_irrefl _ (e ▸ this)
      have c14 := Cell.kx a3 k14 nself
      have D14 := dict_kx a4 k14 (nM _ (.inl rfl))
      have B14 := kk14.bs B
      have K14 := K.non kk14
      have hkb := hkl u hut'
      refine wpAny_execs_cons (wpAny_Assign_Subscript (wpAny_BinOp (e_tuple (s := s) (ar_cons (e_meth (s := s) (fi_op w) (ty_op w) no_op (ke_op w) (nm_L F14.ns (v := .ref b) ((if_neg (by decide)).trans a1) ⟨b, dx, an, am, aw, ad, h14, tk14, rfl, rfl, K14.bk, B14, ar_cons (nm_L F14.ns (v := .int (idx tr u : Nat) kt) (if_pos rfl) (ar_nil ⟨B14, wpAny_call ?_⟩))⟩))))))
      refine op_spec (n := n) r₁ B14 K14 (by omega) hut' fun h15 tk15 to k15 => ar_nil ⟨h15, tk15, rfl, by simp, fun h16 t16 k16 => ?_⟩
      have kk16 := (kk14.trans k15).trans k16
      have B16 := kk16.bs B
      have K16 := K.non kk16
      have F16 := (F14.non k15).non k16
      refine Call_ (nm_B B16 g_tuple b_tuple (callWith_type1 (ar_cons ?_)))
      refine comp_W (s := s) (cl := [(Str.ofString "made", L + 1)]) rfl (by decide) (by decide) (e_meth (s := s) (fi_kids w) (ty_kids w) no_kids (ke_kids w) (nm_L F16.ns (v := .ref b) ((if_neg (by decide)).trans a1) ⟨b, dx, an, am, aw, ad, h16, tk15, rfl, rfl, K16.bk, B16, ar_cons (nm_L F16.ns (v := .int (idx tr u : Nat) kt) (if_pos rfl) (ar_nil ⟨B16, wpAny_call ?_⟩))⟩))
      refine kids_spec (n := n) r₁ B16 K16 (by omega) hut' (by omega) fun h17 tk17 c2 is2 tc2 pk2 k17 => ?_
      have pk2' : Paired (IsNum tr) u.kids is2 := pk2
      have hil2 : is2.length = u.kids.length := (Paired.length pk2').symm
      have k1417 := (k15.trans k16).trans k17
      have c17 := Cell.kx c14 k1417 fun h => h
      have D17 := D14.keep k1417.all
      have sofar : ∀ x ∈ us, (∃ j, j < i ∧ ns[j]? = some ((idx tr x : Nat) : Int)) → ∃ v, valueAt mk ((idx tr x : Nat) : Int) = some v ∧ IsT h17 x v := fun x hx hj => (a6 x hx hj).imp fun v ⟨p, q⟩ => ⟨p, (q.kx k14).kx k1417⟩
      have ready : ∀ kd ∈ u.kids, ∃ v, valueAt mk ((idx tr kd : Nat) : Int) = some v ∧ IsT h17 kd v := fun kd hkd => by
        have hku := hclo u hu kd hkd
        have hlt := K.ok.kid_lt hut' kd hkd
        obtain ⟨j, hj⟩ := List.mem_iff_getElem?.mp ((hnmem _).mpr ((mem_ixs (hut kd hku) hut).mpr hku))
        refine sofar kd hku ⟨j, ?_, hj⟩
        rcases Nat.lt_or_ge j i with h' | h'
        · exact h'
        · have hjl : j < ns.length := (List.getElem?_eq_some_iff.mp hj).1
          have ej : ns[j] = ((idx tr kd : Nat) : Int) := (List.getElem?_eq_some_iff.mp hj).2
          have ei : ns[i] = ((idx tr u : Nat) : Int) := (List.getElem?_eq_some_iff.mp hni).2
          rcases Nat.eq_or_lt_of_le h' with e | hlt'
          · subst e; rw [ej] at ei; omega
          · have := List.pairwise_iff_getElem.mp hso i j hil hjl hlt'
            rw [ei, ej] at this; omega
      refine ca_tp r₁.h tc2 (by omega) Non (fun c hc => hc.elim) (fun j ys h' => h'.IsCell (L + 1) (some (.ref h9.objs.size)) ∧ h'.DictOf (intKind prg w) h9.objs.size mk ∧ (∀ kd ∈ u.kids, ∃ v, valueAt mk ((idx tr kd : Nat) : Int) = some v ∧ IsT h' kd v) ∧ IsTs h' (u.kids.take j) ys)
        ⟨c17, D17, ready, by rw [List.take_zero, IsTs]⟩ (fun j ys h' h'' ⟨q1, q2, q3, q4⟩ k => ?_) (fun j v ys h18 tk18 m18 hvj ⟨q1, q2, q3, q4⟩ n18 e18 => ?_) (fun ys h18 tk18 Dl hDl ⟨q1, q2, q3, q4⟩ l18 k18 => ?_)
      · have old : ∀ b, b < h17.objs.size → ¬ (h17.objs.size ≤ b ∧ b ≤ h17.objs.size + 2) := fun b hb h' => absurd hb (Nat.not_lt.mpr h'.1)
        exact ⟨Cell.kx q1 k (old _ c17.lt), dict_kx q2 k (old _ (dict_lt D17)), fun kd hkd => (q3 kd hkd).imp fun v ⟨p, q⟩ => ⟨p, q.kx k⟩, q4.kx k⟩
      · obtain ⟨kd, hkd, ku, rfl⟩ := Paired.get' pk2' hvj
        obtain ⟨vk, hvk, ik⟩ := q3 kd (List.mem_of_getElem? hkd)
        refine wpAny_tests_nil ?_
        rw [if_pos rfl]
        refine Subscript_ (nm_C q1 (nm_L n18 e18 ?_))
        refine tail_any (s := Sh s h18 tk18) q2.typeIs slot_dict_getitem.lookup (wpAny_getItem_of (s := Sh s h18 tk18) (knd := intKind prg w) (k := ((idx tr kd : Nat) : Int)) (by simp [intKind, Value.isInt]) q2.mapOf hvk ?_) (by with_unfolding_all rfl)
        refine ⟨h18, _, rfl, Kx.refl _ _, q1, q2, q3, ?_⟩
        rw [List.take_add_one, hkd]
        exact q4.snoc ik
      · rw [hil2, List.take_length] at q4
        have hyl : ys.length = u.kids.length := q4.length
        refine ar_nil (call_tuple l18 (by omega) fun h19 c19 t19 hc19 k19 => ?_)
        have k16_19 := (k17.trans k18).trans k19
        refine add_tp (t16.kx k16_19) t19 (by simp; omega) fun h20 c20 t20 k20 => ?_
        have k14_20 := (((k15.trans k16).trans k16_19).trans k20)
        have F20 := F14.non k14_20
        have c20' := Cell.kx c14 k14_20 fun h => h
        have D20 := D14.keep k14_20.all
        have iu : IsT h20 u (.ref c20) := by
          cases u with
          | node op ks => rw [IsT]; exact ⟨c20, to, ys, rfl, t20, (q4.kx k19).kx k20⟩
        refine nm_C c20' (nm_L F20.ns (v := .int (idx tr u : Nat) kt) (if_pos rfl) ?_)
        refine wpAny_setItem_pairs (knd := intKind prg w) (k := ((idx tr u : Nat) : Int)) (by simp [intKind, Value.isInt]) D20 (fun h21 D21 sb21 => wpAny_execs_nil ?_) (by rw [sizeLine_eq]; omega)
        have k21 : Kx (· = h9.objs.size) h20 h21 := Kx.same sb21 (dict_not_tp D20)
        have m21 : Kx M2 h13 h21 := ((k14.mono fun c hc => .inl (.inl hc)).trans k14_20.ofNon).trans (k21.mono fun c hc => .inr hc)
        refine ⟨h21, _, rfl, m21, _, _, _, F20.kx k21 (fun c hc hm' => nM c hm' hc.symm), (if_neg (by decide)).trans a1, (if_neg (by decide)).trans a2, Cell.kx c20' k21 (fun e => nM _ cl1 e.symm), D21, ?_, fun x hx hj => ?_, a7.more m21 hM2n⟩
        · have := stored_length_le mk ((idx tr u : Nat) : Int) (.ref c20); omega
        · obtain ⟨j, hj, hje⟩ := hj
          rw [valueAt_stored]
          by_cases hxu : x = u
          · subst hxu
            rw [if_pos rfl]
            exact ⟨_, rfl, iu.kx k21⟩
          · have hne : ¬ ((idx tr x : Nat) : Int) = ((idx tr u : Nat) : Int) := fun e => hxu (idx_inj (hut x hx) hut' (by omega))
            rw [if_neg hne]
            have hji : j < i := by
              rcases Nat.lt_succ_iff_lt_or_eq.mp hj with h' | h'
              · exact h'
              · subst h'; rw [hni] at hje; exact absurd (Option.some.inj hje).symm hne
            exact (a6 x hx ⟨j, hji, hje⟩).imp fun v ⟨p, q⟩ => ⟨p, ((q.kx k14).kx k14_20).kx k21⟩
    · rintro h13 tk13 ⟨m', cm', mk, G, a1, a2, a3, a4, a5, a6, a7⟩
      have htn : ((idx tr t : Nat) : Int) ∈ ns := (hnmem _).mpr ((mem_ixs ht' hut).mpr htu)
      obtain ⟨j, hj⟩ := List.mem_iff_getElem?.mp htn
      have hjl : j < vs.length := by rw [hnl]; exact (List.getElem?_eq_some_iff.mp hj).1
      obtain ⟨v, hv, iv⟩ := a6 t htu ⟨j, hjl, hj⟩
      refine x_ret (Subscript_ (nm_C a3 (nm_L G.ns a2 ?_)))
      refine tail_any (s := Sh s h13 tk13) a4.typeIs slot_dict_getitem.lookup (wpAny_getItem_of (s := Sh s h13 tk13) (knd := intKind prg w) (k := ((idx tr t : Nat) : Int)) (by simp [intKind, Value.isInt]) a4.mapOf hv ?_) (by with_unfolding_all rfl)
      exact hR h13 _ v iv a7
  | h1 sv uv _ =>
    rw [if_pos (by simp)]
    obtain ⟨st', u, rfl, pst', ⟨uk, rfl⟩⟩ := Paired.unsnoc pst
    have hsl' : sv.length = st'.length := (Paired.length pst').symm
    have hum : u ∈ tr := hst u (by simp)
    rw [List.length_append, List.length_singleton] at hb200
    -- for kid in self.kids(stack.pop())
    refine x_for (e_meth (s := s) (fi_kids w) (ty_kids w) no_kids (ke_kids w) (nm_L F9.ns e1 ⟨b, dx, an, am, aw, ad, h9, _, rfl, rfl, K9.bk, B9, ?_⟩))
    refine ar_cons (e_lmeth0 PySem.F.slot_list_pop PySem.F.type_list_pop (nm_L F9.ns e4 ⟨_, _, rfl, l9, call_pop l9 (by omega) fun h10 l10 k10 => ?_⟩))
    have kk10 : Kx Non h h10 := kk9.more k10 fun c hc => hc ▸ hSn
    have F10 := F9.kx k10 fun c hc hm' => nS c hm' hc.symm
    refine ar_nil ⟨kk10.bs B, wpAny_call ?_⟩
    refine kids_spec (n := n) r₁ (kk10.bs B) (K.non kk10) (by omega) hum (by have := hkl u hum; omega) fun h11 tk11 c is tc pk k11 => ?_
    have pk' : Paired (IsNum tr) u.kids is := pk
    have F11 := F10.non k11
    have D11 : h11.DictOf (intKind prg w) h₁.objs.size kvs := (dict_kx D9 k10 hDS).keep k11.all
    have l11 := l10.kx k11 fun h => h
    have kk11 := kk10.trans k11
    have m11 : Kx M h9 h11 := (k10.mono fun c hc => .inr (.inr hc)).trans k11.ofNon
    have hMlt : ∀ c, M c → c < h11.objs.size := fun c hc => hc.elim (fun hc => F11.lt hc) fun hc => hc.elim (fun e => e ▸ dict_lt D11) fun e => e ▸ l11.lt
    have hcM : ∀ c', M c' → c' ≠ c := fun c' hc' e => by
      subst e
      rcases hc' with hc' | rfl | rfl
      · rcases hc' with rfl | ⟨x, hx⟩
        · exact not_tp_of_ns F11.ns _ tc
        · exact not_tp_of_cell (F11.cell x _ (lookup_of_mem_nodup F11.nd hx)) _ tc
      · exact dict_not_tp D11 _ tc
      · exact tc.ne_ls l11 rfl
    refine for_tp r₁.h tc M (fun c' hc' => ⟨hMlt c' hc', hcM c' hc'⟩) (fun i h' => ∃ m' cm' us2 st2 kvs2 sv2, Fx F.env m' cm' h' ∧ m' (Str.ofString "self") = some (.ref b) ∧ m' (Str.ofString "n") = some (.int (idx tr t : Nat) tn) ∧ m' (Str.ofString "below") = some (.ref h₁.objs.size) ∧ m' (Str.ofString "stack") = some (.ref h₃.objs.size) ∧
        h'.DictOf (intKind prg w) h₁.objs.size kvs2 ∧ kvs2.map (·.1) = ixs tr us2 ∧ Ls h' h₃.objs.size sv2 ∧ Paired (IsNum tr) st2 sv2 ∧ us2.Nodup ∧ (∀ x ∈ us2, x ∈ tr) ∧ (∀ x ∈ st2, x ∈ tr) ∧ t ∈ us2 ∧ (∀ x ∈ us2, x = u ∨ x ∈ st2 ∨ ∀ k ∈ x.kids, k ∈ us2) ∧ (∀ k ∈ u.kids.take i, k ∈ us2) ∧
        2 * (tr.length - us2.length) + st2.length ≤ 2 * (tr.length - us.length) + st'.length ∧ Kx Non h h')
      ⟨_, _, us, st', kvs, sv, F11, e1, e2, e3, e4, D11, hkv, l11, pst', hnd, hut, fun x hx => hst x (List.mem_append_left _ hx), htu, fun x hx => ?_, by simp, by omega, kk11⟩ ?_ ?_ ?_
    · rcases hcl x hx with h1 | h1
      · rcases List.mem_append.mp h1 with h2 | h2
        · exact .inr (.inl h2)
        · exact .inl (List.mem_singleton.mp h2)
      · exact .inr (.inr h1)
    · rintro i h12 h13 ⟨m', cm', us2, st2, kvs2, sv2, G, a1, a2, a3, a4, a5, a6, a7, a8, a9, a10, a11, a12, a13, a14, a15, a16⟩ k
      have old : ∀ c, M c → ¬ c = h11.objs.size := fun c hc e => Nat.lt_irrefl _ (e ▸ hMlt c hc)
      exact ⟨m', cm', us2, st2, kvs2, sv2, G.kx k fun c hc hm' => old c (.inl hm') hc, a1, a2, a3, a4, dict_kx a5 k (old _ (.inr (.inl rfl))), a6, a7.kx k (old _ (.inr (.inr rfl))), a8, a9, a10, a11, a12, a13, a14, a15, a16.more k fun c hc => hc ▸ kk11.gone_ge (Nat.le_refl _)⟩
    · rintro i v h12 tk12 hv ⟨m', cm', us2, st2, kvs2, sv2, G, a1, a2, a3, a4, a5, a6, a7, a8, a9, a10, a11, a12, a13, a14, a15, a16⟩
      obtain ⟨kd, hkd, ku, rfl⟩ := Paired.get' pk' hv
      have hkm : kd ∈ u.kids := List.mem_of_getElem? hkd
      have hkt : kd ∈ tr := K.ok.mem hum kd hkm
      have htk : u.kids.take (i + 1) = u.kids.take i ++ [kd] := by rw [List.take_add_one, hkd]; rfl
      have hl2 : us2.length ≤ tr.length := nodup_len_le a9 a10
      have hkl2 : kvs2.length = us2.length := by have := congrArg List.length a6; simpa [ixs] using this
      refine as_L G fun h13 tk13 G13 k13 => ?_
      have D13 := dict_kx a5 k13 (nD _ (.inl rfl))
      have l13 := a7.kx k13 (nS _ (.inl rfl))
      have kk13 := a16.more k13 fun c hc => hL1 c (.inl hc)
      have m13 : Kx M h12 h13 := k13.mono fun c hc => .inl (.inl hc)
      refine x_if (wpAny_isTrue_Compare1 (nm_L G13.ns (v := .int (idx tr kd : Nat) ku) (if_pos rfl) (nm_L G13.ns (v := .ref h₁.objs.size) ((if_neg (by decide)).trans a3) (wpAny_notIn_of (knd := intKind prg w) (s := Sh s h13 tk13) (k := ((idx tr kd : Nat) : Int)) (by simp [intKind, Value.isInt]) loD D13.mapOf (wpAny_truthy_bool ?_)))))
      by_cases hin : kd ∈ us2
      · have hs : (valueAt kvs2 ((idx tr kd : Nat) : Int)).isSome = true := by
          obtain ⟨x, hx⟩ := valueAt_some (kvs := kvs2) (k := ((idx tr kd : Nat) : Int)) (by rw [a6]; exact (mem_ixs hkt a10).mpr hin)
          rw [hx]; rfl
        rw [hs]
        simp only [Bool.not_true, Bool.false_eq_true, if_false]
        refine wpAny_execs_nil (wpAny_execs_nil ⟨h13, _, rfl, m13, _, _, us2, st2, kvs2, sv2, G13, (if_neg (by decide)).trans a1, (if_neg (by decide)).trans a2, (if_neg (by decide)).trans a3, (if_neg (by decide)).trans a4, D13, a6, l13, a8, a9, a10, a11, a12, a13, fun k hk => ?_, a15, kk13⟩)
        rw [htk] at hk
        rcases List.mem_append.mp hk with h1 | h1
        · exact a14 k h1
        · rw [List.mem_singleton.mp h1]; exact hin
      · have hnk : ((idx tr kd : Nat) : Int) ∉ kvs2.map (·.1) := by rw [a6]; exact fun h' => hin ((mem_ixs hkt a10).mp h')
        rw [valueAt_none hnk]
        simp only [Option.isSome_none, Bool.not_false, if_true]
        have hl3 : us2.length < tr.length := by
          have : (us2 ++ [kd]).length ≤ tr.length := nodup_len_le (by
            rw [List.nodup_append]
            exact ⟨a9, by simp, fun x hx y hy => by rw [List.mem_singleton.mp hy]; rintro rfl; exact hin hx⟩) (fun x hx => by
            rcases List.mem_append.mp hx with h1 | h1
            · exact a10 x h1
            · rw [List.mem_singleton.mp h1]; exact hkt)
          simp at this; omega
        have hs2 : sv2.length = st2.length := (Paired.length a8).symm
        refine wpAny_execs_cons (wpAny_Assign_Subscript (wpAny_Constant_bool (nm_L G13.ns (v := .ref h₁.objs.size) ((if_neg (by decide)).trans a3) (nm_L G13.ns (v := .int (idx tr kd : Nat) ku) (if_pos rfl) ?_))))
        refine wpAny_setItem_pairs (knd := intKind prg w) (k := ((idx tr kd : Nat) : Int)) (by simp [intKind, Value.isInt]) D13 (fun h14 D14 sb14 => ?_) (by rw [sizeLine_eq]; omega)
        have k14 : Kx (· = h₁.objs.size) h13 h14 := Kx.same sb14 (dict_not_tp D13)
        have G14 := G13.kx k14 fun c hc hm' => nD c hm' hc.symm
        have l14 := l13.kx k14 (Ne.symm hDS)
        refine x_expr (e_lmeth1 PySem.F.slot_list_append PySem.F.type_list_append (nm_L G14.ns (v := .ref h₃.objs.size) ((if_neg (by decide)).trans a4) ⟨_, _, rfl, l14, nm_L G14.ns (v := .int (idx tr kd : Nat) ku) (if_pos rfl) (call_append l14 (by omega) fun h15 l15 k15 => ⟨rfl, wpAny_execs_nil (wpAny_execs_nil ?_)⟩)⟩))
        have m15 : Kx M h12 h15 := (m13.trans (k14.mono fun c hc => .inr (.inl hc))).trans (k15.mono fun c hc => .inr (.inr hc))
        refine ⟨h15, _, rfl, m15, _, _, us2 ++ [kd], st2 ++ [kd], _, _, G14.kx k15 (fun c hc hm' => nS c hm' hc.symm), (if_neg (by decide)).trans a1, (if_neg (by decide)).trans a2, (if_neg (by decide)).trans a3, (if_neg (by decide)).trans a4, dict_kx D14 k15 hDS, ?_, l15, Paired.app a8 (.cons ⟨ku, rfl⟩ .nil), ?_, fun x hx => ?_, fun x hx => ?_, List.mem_append_left _ a12, fun x hx => ?_, fun k hk => ?_, ?_, a16.more m15 hMn⟩
        · rw [stored_new_keys hnk, a6]; simp [ixs]
        · rw [List.nodup_append]
          exact ⟨a9, by simp, fun x hx y hy => by rw [List.mem_singleton.mp hy]; rintro rfl; exact hin hx⟩
        · rcases List.mem_append.mp hx with h1 | h1
          · exact a10 x h1
          · rw [List.mem_singleton.mp h1]; exact hkt
        · rcases List.mem_append.mp hx with h1 | h1
          · exact a11 x h1
          · rw [List.mem_singleton.mp h1]; exact hkt
        · rcases List.mem_append.mp hx with h1 | h1
          · rcases a13 x h1 with h2 | h2 | h2
            · exact .inl h2
            · exact .inr (.inl (List.mem_append_left _ h2))
            · exact .inr (.inr fun k hk => List.mem_append_left _ (h2 k hk))
          · exact .inr (.inl (List.mem_append_right _ h1))
        · rw [htk] at hk
          rcases List.mem_append.mp hk with h1 | h1
          · exact List.mem_append_left _ (a14 k h1)
          · exact List.mem_append_right _ h1
        · simp only [List.length_append, List.length_singleton]; omega
    · rintro h12 tk12 ⟨m', cm', us2, st2, kvs2, sv2, G, a1, a2, a3, a4, a5, a6, a7, a8, a9, a10, a11, a12, a13, a14, a15, a16⟩
      have hil : is.length = u.kids.length := (Paired.length pk').symm
      rw [hil, List.take_length] at a14
      refine wpAny_execs_nil ⟨h12, tk12, 2 * (tr.length - us2.length) + st2.length, rfl, by rw [List.length_append, List.length_singleton]; omega, m', cm', us2, st2, kvs2, sv2, G, a1, a2, a3, a4, a5, a6, a7, a8, a9, a10, a11, a12, fun x hx => ?_, rfl, by omega, a16⟩
      rcases a13 x hx with h1 | h1 | h1
      · exact .inr (h1 ▸ a14)
      · exact .inl h1
      · exact .inr h1
end
end Mine

namespace Mine

section
variable {w : World} {A : Around} {s : Shared} {h : Heap} {tk : Nat} {h0 : Heap} {R : Result → Shared → Prop} {E : Value → Shared → Prop} {env : Env}

/-- d.setdefault(k, v) of a dict by texts -/
theorem setdefault_pairs {K : Type} [DecidableEq K] {knd : KeyKind prg w K} {d : Addr} {kvs : List (K × Value)} {k : K} {key dflt : Value} {Q : Value → Shared → Prop} (hkey : knd.is k key = true) (hm : h.DictOf knd d kvs) (hd : (d == sysModules) = false) (hsz : kvs.length ≤ 100000)
    (h1 : ∀ v, valueAt kvs k = some v → Q v (Sh s h (tk + 1)))
    (h2 : k ∉ kvs.map (·.1) → ∀ h', h'.DictOf knd d (kvs ++ [(k, dflt)]) → Kx (· = d) h h' → Q dflt (Sh s h' (tk + 1))) :
    wpAny (model prg w) A (call (.builtin "dict.setdefault") [.ref d, key, dflt]) Q E (Sh s h tk) := by
  have hT := hm.typeIs (s := Sh s h tk)
  have hn0 := dict_not_tp hm
  obtain ⟨o, es, ep, ho, hc, hd', hk, hp, hn⟩ := hm
  refine wpAny_call (codeAny_call_builtin PySem.F.slot_dict_setdefault.plain PySem.F.entry_dict_setdefault (PySem.F.slot_dict_setdefault.check _ _ _ _ _ _ _ _ hT (PySem.F.args_dict_setdefault_3 _ _ _) ?_))
  unfold Builtin.«dict.setdefault»
  refine wpAny_bind ?_
  unfold Builtin.Dict.keyAndDefault
  refine wpAny_bind (wpAny_notOrdered_dict hT ?_)
  show wpAny _ _ (pure (d, key, some dflt)) _ _ _
  refine wpAny_pure ?_
  show wpAny _ _ (if (d == sysModules) = true then _ else (dictSetDefault d key dflt >>= _)) _ _ _
  rw [if_neg (by rw [hd]; exact Bool.false_ne_true)]
  refine wpAny_bind ?_
  have hes : es.size ≤ sizeLine := by
    have e1 := hp.length
    have e2 : es.toList.length = es.size := by simp
    rw [sizeLine_eq]; omega
  unfold dictSetDefault
  try with_reducible refine wpAny_holding ?_
  refine wpAny_bind (knd.pyHash hkey ?_)
  refine wpAny_bind (wpAny_dictFind_of (s := Sh s h (tk + 1)) hkey ho hd' hk ?_)
  have hidx : (es.findIdx? fun e => knd.is k e.key) = kvs.findIdx? fun kv => decide (kv.1 = k) := by
    rw [← hp.findIdx k]; obtain ⟨l⟩ := es; simp
  have hfk : ∀ x, findBy knd.is es x = valueAt kvs x := fun x => by
    obtain ⟨o', es', ep', ho', hc', hd'', hk', hf'⟩ := (show h.DictOf knd d kvs from ⟨o, es, ep, ho, hc, hd', hk, hp, hn⟩).mapOf
    rw [ho] at ho'; cases ho'
    rw [hd'] at hd''; injection hd'' with e1 e2; subst e1
    exact hf' x
  cases hi : es.findIdx? fun e => knd.is k e.key with
  | some i =>
    have hfv : valueAt kvs k = (es[i]?).map (·.val) := by rw [← hfk k, findBy_of_findIdx?, hi]
    refine wpAny_bind (wpAny_dictEntries (s := Sh s h (tk + 1)) ho hd' ?_)
    cases he : es[i]? with
    | none =>
      exfalso
      have := Array.findIdx?_eq_some_iff_findIdx_eq.mp hi
      have hlt : i < es.size := this.1
      rw [Array.getElem?_eq_getElem hlt] at he
      exact nomatch he
    | some e =>
      rw [he] at hfv
      exact wpAny_bind (wpAny_rule (wpAny_pure (wpAny_pure (h1 e.val hfv))))
  | none =>
    have hnot : k ∉ kvs.map (·.1) := not_mem_of_findIdx_none (hidx ▸ hi)
    refine wpAny_bind (wpAny_rule (wpAny_bind (wpAny_updateDictKeys (hz := hes) (s := Sh s h (tk + 1)) ho hd' (wpAny_pure (wpAny_pure (h2 hnot _ ⟨_, _, ep + 1, Heap.get?_update_self _ ho (Obj.isFreed_of_dict (Obj.data_mapDictKeys hd' _)),
      hc.mapDictKeys _, Obj.data_mapDictKeys hd' _, hk.push hkey _, ?_, ?_⟩ (Kx.same (Heap.SameBut.update ..) hn0)))))))
    · have := hp.append hkey (knd.hash k) dflt
      obtain ⟨l⟩ := es
      simpa using this
    · rw [List.map_append, List.nodup_append]
      refine ⟨hn, by simp, ?_⟩
      intro a ha b hb
      simp only [List.map_cons, List.map_nil, List.mem_singleton] at hb
      subst hb
      exact fun e => hnot (e ▸ ha)
end
end Mine

namespace Mine

section
variable {prog : Program} {w : World} {A : Around} {E : Value → Shared → Prop} {R : Result → Shared → Prop} {h : Heap} {g : Array GenState} {d : Drawn} {t : Nat} {os : OsState}
variable {nm q : Str} {C N : Addr} {bs bm : List Value} {hdct : Bool} {sn : List Str} {sub : List Value} {ab : Bool} {col : Option Bool} {dd : Option Addr} {k0 k1 k2 k3 k5 : Option Value}

/-- a subclass of Exception, at some depth: its making -/
theorem exc_check {M : Model} {rest : List Value} {Q : Unit → Shared → Prop} (hb : bm.contains (.type "Exception") = true)
    (hC : h.get? C = some (excClassObj nm q C N bs bm hdct sn sub ab col dd k0 k1 k2 k3 k5 "Exception.__new__")) (hq : Q () ⟨h, g, d, t, os⟩) :
    wpAny M A (checkBuiltinCall "Exception.__new__" ⟨.ref C :: rest, []⟩) Q E ⟨h, g, d, t, os⟩ := by
  have F := PySem.F.excBase_Exception
  have hcont : (Value.ref C :: bm).contains (.type "Exception") = true := by rw [List.contains_cons, hb, Bool.or_true]
  have hstar := F.noStar
  simp only [checkBuiltinCall, F.newKind, F.newSplit, F.newRow]
  repeat (first | refine wpAny_loadPart_at hC ?_ | (refine wpAny_isSubtype_exc hC ?_; rw [hcont]) | refine wpAny_staticBase_exc hC ?_ | refine wpAny_madeBy_exc hC ?_ | simp only [bne_self_eq_false, Bool.false_eq_true, if_false] | wp_step)
  exact hq

theorem exc_new {rest : List Value} (hb : bm.contains (.type "Exception") = true) (hbA : bm.contains (.type "AttributeError") = false) (hbN : bm.contains (.type "NameError") = false)
    (hC : h.get? C = some (excClassObj nm q C N bs bm hdct sn sub ab col dd k0 k1 k2 k3 k5 "Exception.__new__"))
    (hq : R (.ok (.ret (.ref (h.objs.size + 1)))) ⟨(h.push { cls := .type "tuple", data := .seq rest.toArray }).push
      { cls := .ref C, data := .fields #[.ref h.objs.size, .none, .none, .none, .bool false, .none] }, g, d, t, os⟩) (hrest : rest.length ≤ sizeLine := by size_fits) :
    codeAny (model prog w) A (.builtin "Exception.__new__" ⟨.ref C :: rest, []⟩) R ⟨h, g, d, t, os⟩ := by
  have F := PySem.F.excBase_Exception
  have hends := F.ends
  have hcB : (Value.ref C :: bm).contains (.type "Exception") = true := by rw [List.contains_cons, hb, Bool.or_true]
  have hcA : (Value.ref C :: bm).contains (.type "AttributeError") = false := by rw [List.contains_cons, hbA]; rfl
  have hcN : (Value.ref C :: bm).contains (.type "NameError") = false := by rw [List.contains_cons, hbN]; rfl
  refine codeAny_builtinAt F.entry ?_
  unfold Builtin.«BaseException.__new__»
  refine _root_.PySem.wpAt_bind ?_
  show _root_.PySem.wpAt _ _ _ (stack >>= _) _ _ _
  refine _root_.PySem.wpAt_bind (_root_.PySem.wpAt_stack fun p below => _root_.PySem.wpAt_of_wpAny ?_)
  wp_walk
  refine _root_.PySem.wpAt_of_wpAny ?_
  rw [F.owner]
  repeat (first | with_reducible refine wpAny_madeHere_exc F.canon hC ?_ | with_reducible refine wpAny_loadPart_at hC ?_ | (with_reducible refine wpAny_isSubtype_exc hC ?_; first | rw [hcB] | rw [hcA] | rw [hcN]) | wp_step)
  show R _ _
  rw [Heap.size_push]
  exact hq

theorem exc_type_call {rest : List Value} {fI : Addr} {oI : Obj} {Q : Fin → Shared → Prop} (hb : bm.contains (.type "Exception") = true) (hbA : bm.contains (.type "AttributeError") = false) (hbN : bm.contains (.type "NameError") = false)
    (hC : h.get? C = some (excClassObj nm q C N bs bm hdct sn sub ab col dd k0 k1 k2 k3 k5 "Exception.__new__"))
    (hi : ∀ h', (∀ b o, h.get? b = some o → h'.get? b = some o) → Looks (model prog w) h' (typeLookup (.ref C) "__init__") (some (.ref fI)))
    (hfI : h.get? fI = some oI) (hfc : oI.cls = .type "function")
    (hq : ∀ h' e, Heap.MadeExcOf h h' e (.ref C) rest →
      wpAny (model prog w) A (call (.ref fI) (.ref e :: rest)) (fun r s' => r = .none ∧ Q (.done (.ret (.ref e))) s') E ⟨h', g, d, t, os⟩) (hrest : rest.length ≤ sizeLine := by size_fits) :
    wpAny (model prog w) A (Builtin.«type.__call__» ⟨.ref C :: rest, []⟩) Q E ⟨h, g, d, t, os⟩ := by
  have F := PySem.F.excBase_Exception
  repeat (first | with_reducible refine wpAny_loadPart_at hC ?_ | with_reducible refine wpAny_madeBy_exc hC ?_ | wp_step)
  refine codeAny_call_builtin_code (Code.quiet_builtin _ F.quiet) (exc_check hb hC ?_)
  refine exc_new hb hbA hbN hC ?_ hrest
  show wpAny _ _ _ _ _ _
  have up : ∀ b o, h.get? b = some o → ((h.push { cls := .type "tuple", data := .seq rest.toArray }).push { cls := .ref C, data := .fields #[.ref h.objs.size, .none, .none, .none, .bool false, .none] }).get? b = some o :=
    fun b o e => Heap.get?_push_of_some _ (Heap.get?_push_of_some _ e)
  have hC₁ := up _ _ hC
  have hfI₁ := up _ _ hfI
  have hget : ((h.push { cls := .type "tuple", data := .seq rest.toArray }).push
      { cls := .ref C, data := .fields #[.ref h.objs.size, .none, .none, .none, .bool false, .none] }).get? (h.objs.size + 1) = some
      { cls := .ref C, data := .fields #[.ref h.objs.size, .none, .none, .none, .bool false, .none] } := by heap_get
  have hcC : (Value.ref C :: bm).contains (.ref C) = true := by simp
  unfold isInstance
  repeat (first | with_reducible refine wpAny_loadPart_at hget ?_ | (with_reducible refine wpAny_isSubtype_exc hC₁ ?_; rw [hcC]) | wp_step)
  show wpAny _ _ (typeLookup (.ref C) _) _ _ _
  refine (hi _ up).at ?_
  refine wpAny_holding (wpAny_bind ?_)
  unfold bindSpecial
  refine wpAny_bind (wpAny_typeOf (T := "function") ⟨_, hfI₁, hfc⟩ ?_)
  rw [if_pos (by decide)]
  refine wpAny_pure (wpAny_bind (wpAny_mono (hq _ (h.objs.size + 1) ⟨up, Heap.get?_none_of_le (Nat.le_succ _), h.objs.size, hget, Heap.get?_none_of_le (Nat.le_refl _), ?_⟩) (fun r s' hr => ?_) fun _ _ x => x))
  · exact Heap.get?_push_of_some _ (Heap.get?_push_at rfl rfl)
  · obtain ⟨rfl, hQ⟩ := hr
    wp_walk
    exact hQ

theorem exc_call {rest : List Value} {fI : Addr} {oI : Obj} {Q : Value → Shared → Prop} (hb : bm.contains (.type "Exception") = true) (hbA : bm.contains (.type "AttributeError") = false) (hbN : bm.contains (.type "NameError") = false)
    (hC : h.get? C = some (excClassObj nm q C N bs bm hdct sn sub ab col dd k0 k1 k2 k3 k5 "Exception.__new__"))
    (hi : ∀ h', (∀ b o, h.get? b = some o → h'.get? b = some o) → Looks (model prog w) h' (typeLookup (.ref C) "__init__") (some (.ref fI)))
    (hfI : h.get? fI = some oI) (hfc : oI.cls = .type "function")
    (hq : ∀ h' e, Heap.MadeExcOf h h' e (.ref C) rest →
      wpAny (model prog w) (A.under (.builtin "type.__call__" ⟨.ref C :: rest, []⟩)) (call (.ref fI) (.ref e :: rest)) (fun r s' => r = .none ∧ Q (.ref e) s') E ⟨h', g, d, t, os⟩) (hrest : rest.length ≤ sizeLine := by size_fits) :
    wpAny (model prog w) A (call (.ref C) rest) Q E ⟨h, g, d, t, os⟩ := by
  have f1 := tc_lookup
  have f2 := tc_bind (.ref C)
  have hT : (⟨h, g, d, t, os⟩ : Shared).TypeIs (.ref C) "type" := ⟨_, hC, rfl⟩
  refine wpAny_call (codeAny_of_tree ?_)
  show wpAny _ _ (callAny (.ref C) _) _ _ _
  repeat (any_goals (first | assumption | with_reducible refine wpAny_loadPart_at hC ?_ | wp_step))
  refine ⟨rfl, ?_⟩
  refine codeAny_call_builtin_at (Code.quiet_builtin _ (by decide +kernel)) entry_typeCall (wpAny_check_type_call_sub hC (exc_type_call (hrest := hrest) hb hbA hbN hC hi hfI hfc fun h' e hm => ?_))
  exact hq h' e hm
end
end Mine

namespace Mine

abbrev exInit : Value := .builtin "Exception.__init__"
abbrev mwObj (x : Addr) : Obj := { cls := .type "method-wrapper", data := .fields #[exInit, .ref x] }
theorem wd_slot : Slot "wrapper_descriptor" "__get__" "wrapper_descriptor.__get__" :=
  .of (owner := "wrapper_descriptor") (n := "__get__") (by rw [typeLookup_type, builtinLookup_eq_fast]; kernel_rfl) (by decide +kernel) (by decide +kernel) (by decide +kernel)
    (by first | exact .inl (by decide +kernel) | exact .inr (by decide +kernel)) (by rw [isSubtype_type]; kernel_rfl)
theorem wd_entry : entryFor table "wrapper_descriptor.__get__" = some Builtin.«wrapper_descriptor.__get__» := entryFor_of_tree (by kernel_rfl)
theorem wd_args (a b c : Value) : argsOk "wrapper_descriptor.__get__" ⟨[a, b, c], []⟩ := by unfold argsOk; kernel_rfl
theorem wd_type : typeOf exInit = pure (.type "wrapper_descriptor") := by show builtinType _ = _; rw [builtinType_eq_fast]; kernel_rfl
theorem wd_nc : (kfb_private% "nameAndClass") exInit = pure (Str.ofString "__init__", .type "Exception") := by kernel_rfl

theorem own_ex : ".".intercalate (String.cutAt "Exception.__init__" '.').dropLast = "Exception" := by first | decide +kernel | kernel_rfl
section
variable {prog : Program} {w : World} {M : Model} {A : Around} {E : Value → Shared → Prop} {s : Shared} {h : Heap} {g : Array GenState} {d : Drawn} {t : Nat} {os : OsState} {K : Frag}

theorem wd_get {x C : Addr} {P : Fin → Shared → Prop} (hi : Looks M s.heap (isInstance (.ref x) (.type "Exception")) true)
    (hp : P (.done (.ret (.ref s.heap.objs.size))) { s with heap := s.heap.push (mwObj x) }) :
    wpAny M A (Builtin.«wrapper_descriptor.__get__» ⟨[exInit, .ref x, .ref C], []⟩) P E s := by
  unfold Builtin.«wrapper_descriptor.__get__»
  refine wpAny_bind (wpAny_of_eq (a := (exInit, some (.ref x), some (.ref C))) (by first | rfl | kernel_rfl) ?_)
  refine wpAny_bind (m := (kfb_private% "checkInstance") exInit (.ref x)) ?_
  refine wpAny_bind (m := (kfb_private% "nameAndClass") exInit) (wpAny_of_eq wd_nc ?_)
  refine wpAny_bind (m := isInstance (.ref x) (.type "Exception")) (hi.here ?_)
  refine wpAny_pure ?_
  exact wpAny_bind (wpAny_newObj_type (wpAny_pure hp))

theorem alongB {l : List Value} {v : Value} {name : Str} {β : Type} {init : β} {body : Value → β → Sem (ForInStep β)} {k : Option Value → Sem (ForInStep β)} {Q : β → Shared → Prop}
    (X : K.In h) (hb : ∀ c r, body c r = classOwn c name >>= k) (hk : k none = pure (.yield init))
    (hf : alongIn K name l = some (some v)) (hq : wpAny M A (k (some v)) (fun st s' => match st with | .done b => Q b s' | .yield _ => False) E ⟨h, g, d, t, os⟩) :
    wpAny M A (forIn l init body) Q E ⟨h, g, d, t, os⟩ := ks_forIn_along X hb hk hq hf

/-- super().__init__ of an exception whose next __init__ is Exception's -/
theorem su_ga {so D x C : Addr} {l₀ l : List Value} {name : Str} {tk : Tok} {Q : Fin → Shared → Prop}
    (hso : h.get? so = some { cls := .type "super", dict := none, data := .fields #[.ref D, .ref x, .ref C], slots := #[] }) (hno : Looks (model prog w) h (opaqueClassAbove (.ref C)) none)
    (hC : Looks (model prog w) h (mroOf (.ref C)) l₀) (hl : (l₀.dropWhile (· != .ref D)).drop 1 = l) (X : K.In h)
    (hf : alongIn K name l = some (some exInit)) (hxC : x ≠ C) (hn : (name == ("__class__" : Str)) = false) {ox : Obj} (hx : h.get? x = some ox) (hxc : ox.cls = .ref C) (hsub : Looks (model prog w) h (isSubtype (.ref C) (.type "Exception")) true)
    (hq : Q (.done (.ret (.ref h.objs.size))) ⟨h.push (mwObj x), g, d, t, os⟩) :
    wpAny (model prog w) A (Builtin.«super.__getattribute__» ⟨[.ref so, .str name tk], []⟩) Q E ⟨h, g, d, t, os⟩ := by
  have hlk := wd_slot.lookup
  have hne : (Value.ref x == Value.ref C) = false := by simp [hxC]
  have hTf : (⟨h, g, d, t, os⟩ : Shared).TypeIs exInit "wrapper_descriptor" := wd_type
  have hdt : ({ cls := .type "super", dict := none, data := .fields #[.ref D, .ref x, .ref C], slots := #[] } : Obj).data = .fields #[.ref D, .ref x, .ref C] := rfl
  have f0 : (#[.ref D, .ref x, .ref C] : Array Value)[0]? = some (.ref D) := rfl
  have f1 : (#[.ref D, .ref x, .ref C] : Array Value)[1]? = some (.ref x) := rfl
  have f2 : (#[.ref D, .ref x, .ref C] : Array Value)[2]? = some (.ref C) := rfl
  unfold Builtin.«super.__getattribute__»
  repeat (first
    | (with_reducible refine wpAny_field hso hdt f0 ?_) | (with_reducible refine wpAny_field hso hdt f1 ?_) | (with_reducible refine wpAny_field hso hdt f2 ?_)
    | (with_reducible refine ks_wpAny_notOpaque hno ?_)
    | (with_reducible refine Looks.at hC ?_; rw [hl])
    | (refine ks_forIn_along X (fun _ _ => rfl) rfl ?_ hf)
    | (with_reducible refine wpAny_typeOf hTf ?_)
    | (with_reducible refine wpAny_call_entry wd_slot hTf wd_entry ?_ (wd_args _ _ _))
    | (with_reducible refine ⟨_, rfl, ?_⟩)
    | (with_reducible refine wpAny_loadPart_at hx ?_; rw [hxc])
    | (rw [own_ex]; with_reducible refine Looks.at hsub ?_)
    | (simp only [hn, hne, Bool.or_false, Bool.false_eq_true, if_false])
    | wp_step
    | dsimp only)
  all_goals first | exact hq | skip
end
end Mine

namespace Mine

section
variable {prog : Program} {w : World} {M : Model} {A : Around} {E : Value → Shared → Prop} {s : Shared} {h : Heap} {g : Array GenState} {d : Drawn} {t : Nat} {os : OsState} {K : Frag}

theorem su_meth {so D x C : Addr} {l₀ l : List Value} {name : Str} {pl : Sem Bool} {Q : Value × List Value → Shared → Prop}
    (hso : h.get? so = some { cls := .type "super", dict := none, data := .fields #[.ref D, .ref x, .ref C], slots := #[] }) (hno : Looks (model prog w) h (opaqueClassAbove (.ref C)) none)
    (hC : Looks (model prog w) h (mroOf (.ref C)) l₀) (hl : (l₀.dropWhile (· != .ref D)).drop 1 = l) (X : K.In h)
    (hf : alongIn K name l = some (some exInit)) (hxC : x ≠ C) (hn : (name == ("__class__" : Str)) = false) {ox : Obj} (hx : h.get? x = some ox) (hxc : ox.cls = .ref C) (hsub : Looks (model prog w) h (isSubtype (.ref C) (.type "Exception")) true)
    (hq : Q (.ref h.objs.size, []) ⟨h.push (mwObj x), g, d, t + 1, os⟩) :
    wpAny (model prog w) A (getMethod (.ref so) name pl) Q E ⟨h, g, d, t, os⟩ := by
  have hlk := F.ks_slot_super_ga.lookup
  have hcan := F.ks_canon_super_ga
  have hT : ∀ t', (⟨h, g, d, t', os⟩ : Shared).TypeIs (.ref so) "super" := fun _ => ⟨_, hso, rfl⟩
  unfold getMethod
  refine wpAny_bind (wpAny_specialOf (hT _) hlk ?_)
  show wpAny _ _ (if (Manifest.canonical "super.__getattribute__" != "object.__getattribute__") = true then _ else _) _ _ _
  rw [if_pos hcan]
  unfold getAttr getAttrBy
  refine wpAny_bind (wpAny_bind (wpAny_mkText (wpAny_holding (wpAny_bind (wpAny_typeOf (hT _) (wpAny_bind (wpAny_of_eq hlk ?_)))))))
  show wpAny _ _ (getAttrByItsOwn (.ref so) (.str name t) (.type "super") (.builtin "super.__getattribute__") true false) _ _ _
  unfold getAttrByItsOwn hookBefore callGetattribute boundAndCalled
  refine wpAny_bind (wpAny_of_eq (show (if onTheHeap (.type "super") then typeLookup (.type "super") "__getattr__" else pure none) = pure none from rfl) ?_)
  refine wpAny_bind (wpAny_attempt (wpAny_holding ?_))
  show wpAny _ _ (bindSpecial (.builtin "super.__getattribute__") (.ref so) >>= _) _ _ _
  refine wpAny_bind (wpAny_of_eq (F.ks_slot_super_ga.bind _) ?_)
  refine wpAny_mono (Q := fun v s' => v = .ref h.objs.size ∧ s' = ⟨h.push (mwObj x), g, d, t + 1, os⟩) (E := fun _ _ => False)
    (wpAny_call_entry F.ks_slot_super_ga (hT _) F.ks_entry_super_ga (su_ga hso hno hC hl X hf hxC hn hx hxc hsub ⟨_, rfl, rfl, rfl⟩) (F.ks_gaArgs_super _ _)) (fun v s' hv => ?_) fun _ _ z => z.elim
  obtain ⟨rfl, rfl⟩ := hv
  exact wpAny_pure (wpAny_pure hq)

theorem mw_with {x : Addr} {pos : Pos} {u : Addr} {args : List (Bool × Sem Value)} {Q : Value → Shared → Prop} (hplain : args.any (·.1) = false)
    (hh : wpAny M A (evalArgs (.ref u) true args []) (fun y s₁ => s₁.heap.get? u = some (mwObj x) ∧ wpAny M A (call (.ref u) y.pos y.kw) Q E s₁) E s) : wpAny M A (callWith pos (.ref u) [] args []) Q E s := by
  unfold callWith
  refine wpAny_bind (wpAny_holding (wpAny_mono hh (fun y s₁ h₁ => wpAny_bind (wpAny_standAt ?_)) fun _ _ x => x))
  obtain ⟨ho, hcall⟩ := h₁
  simp only [hplain, List.any_nil, Bool.or_false]
  refine wpAny_bind (m := keeperOf (.ref u)) ?_
  unfold keeperOf
  refine wpAny_bind (wpAny_load ho ?_)
  simp only [mwObj, show (Value.type "method-wrapper" != Value.type "method") = true by decide, show (Value.type "method-wrapper" == Value.type "builtin_function_or_method" || Value.type "method-wrapper" == Value.type "method-wrapper") = true by decide, if_true]
  refine wpAny_pure ?_
  exact wpAny_bind (wpAny_mono hcall (fun r s₂ hr => wpAny_bind (wpAny_holding (wpAny_point (wpAny_pure hr)))) fun _ _ x => x)

section
variable {nm q : Str} {C N : Addr} {bs bm : List Value} {hdct : Bool} {sn : List Str} {sub : List Value} {ab : Bool} {col : Option Bool} {dd : Option Addr} {k0 k1 k2 k3 k5 : Option Value}
theorem bound_check {M : Model} {x : Addr} {v : Value} {ox : Obj} {Q : Unit → Shared → Prop} (hb : bm.contains (.type "Exception") = true)
    (hC : h.get? C = some (excClassObj nm q C N bs bm hdct sn sub ab col dd k0 k1 k2 k3 k5 "Exception.__new__")) (hx : h.get? x = some ox) (hcls : ox.cls = .ref C) (hq : Q () ⟨h, g, d, t, os⟩) :
    wpAny M A (checkBoundCall "Exception.__init__" ⟨[.ref x, v], []⟩) Q E ⟨h, g, d, t, os⟩ := by
  have F := PySem.F.excBase_Exception
  have e1 := F.initRow
  have e2 := F.initKind
  have hcB : (Value.ref C :: bm).contains (.type "Exception") = true := by rw [List.contains_cons, hb, Bool.or_true]
  unfold checkBoundCall
  simp only [e1, e2]
  rw [if_pos (by decide)]
  repeat (first | (with_reducible refine wpAny_loadPart_at hx ?_; rw [hcls]) | with_reducible refine wpAny_loadPart_at hC ?_ | (with_reducible refine wpAny_isSubtype_exc hC ?_; rw [hcB]) | wp_step)
  exact hq
end

theorem exi_call {nm q : Str} {N : Addr} {bs bm : List Value} {hdct : Bool} {sn : List Str} {sub : List Value} {ab : Bool} {col : Option Bool} {dd : Option Addr} {k0 k1 k2 k3 k5 : Option Value} {u x C t0 : Addr} {v : Value} {Q : Value → Shared → Prop} (hu : h.get? u = some (mwObj x)) (hb : bm.contains (.type "Exception") = true)
    (hC : h.get? C = some (excClassObj nm q C N bs bm hdct sn sub ab col dd k0 k1 k2 k3 k5 "Exception.__new__")) {dct : Option Addr} {a1 a2 a3 a4 a5 : Value} {sl : Array (Option Value)}
    (hx : h.get? x = some { cls := .ref C, dict := dct, data := .fields #[.ref t0, a1, a2, a3, a4, a5], slots := sl })
    (hq : ∀ h' t1, (∀ b o, b ≠ x → h.get? b = some o → h'.get? b = some o) → h.get? t1 = none → h'.get? x = some { cls := .ref C, dict := dct, data := .fields #[.ref t1, a1, a2, a3, a4, a5], slots := sl } → Q .none ⟨h', g, d, t, os⟩) :
    wpAny (model prog w) A (call (.ref u) [v]) Q E ⟨h, g, d, t, os⟩ := by
  refine wpAny_call (codeAny_of_tree ?_)
  show wpAny _ A.in1 (callAny (.ref u) ⟨[v], []⟩) _ _ _
  simp only [callAny]
  refine wpAny_bind (wpAny_load hu ?_)
  simp only [mwObj, show (Value.type "method-wrapper" == Value.type "method" || Value.type "method-wrapper" == Value.type "builtin_function_or_method" || Value.type "method-wrapper" == Value.type "method-wrapper") = true by decide, if_true]
  refine KFB.if_so (by decide) ?_
  refine wpAny_bind (bound_check hb hC hx rfl ?_)
  refine wpAny_bind (wpAny_pure (wpAny_pure ?_))
  refine ⟨Code.quiet_builtin _ (by decide +kernel), codeAny_builtin PySem.F.excBase_Exception.initEntry ?_⟩
  unfold Builtin.«BaseException.__init__»
  have hd : ({ cls := .ref C, dict := dct, data := .fields #[.ref t0, a1, a2, a3, a4, a5], slots := sl } : Obj).data = .fields #[.ref t0, a1, a2, a3, a4, a5] := rfl
  have hx' := Heap.get?_push_of_some (h := h) { cls := .type "tuple", data := .seq [v].toArray } hx
  have f0 : (#[.ref t0, a1, a2, a3, a4, a5] : Array Value)[0]? = some (.ref t0) := rfl
  wp_walk
  refine hq _ h.objs.size (fun b o hb e => ?_) (Heap.get?_none_of_le (Nat.le_refl _)) ?_
  · rw [Heap.get?_update_other _ _ (Ne.symm hb)]
    exact Heap.get?_push_of_some _ e
  · rw [Heap.get?_update_self _ hx' rfl]
    rfl
end
end Mine

namespace Mine

section
variable {prog : Program} {w : World} {A : Around} {E : Value → Shared → Prop} {h : Heap} {g : Array GenState} {d : Drawn} {t : Nat} {os : OsState} {K : Frag}
variable {nm q : Str} {C N D : Addr} {bs : List Value} {sn : List Str} {sub : List Value} {ab : Bool} {col : Option Bool} {dd : Option Addr} {k0 k1 k2 k3 k5 : Option Value}
open Builtin Builtin.ObjectAttr

abbrev exBm (D : Addr) : List Value := [.ref D, .type "Exception", .type "BaseException", .type "object"]

theorem exc_store {tk : Tok} {x : Addr} {o : Obj} {name : Str} {v : Value} {Q : Fin → Shared → Prop}
    (hC : h.get? C = some (excClassObj nm q C N bs (exBm D) true sn sub ab col dd k0 k1 k2 k3 k5 "Exception.__new__"))
    (hl : Looks (model prog w) h (typeLookup (.ref C) name) none) (hx : h.get? x = some o) (hc : o.cls = .ref C) (hnc : ∀ c, o.data ≠ .cls c) (hdn : o.dict = none)
    (hq : ∀ h' tk' dx, (∀ b ob, b ≠ x → h.get? b = some ob → h'.get? b = some ob) → h'.get? x = some { cls := o.cls, dict := some dx, data := o.data, slots := o.slots } → Q (.done (.ret .none)) ⟨h', g, d, tk', os⟩) :
    wpAny (model prog w) A (Builtin.«object.__setattr__» ⟨[.ref x, .str name tk, v], []⟩) Q E ⟨h, g, d, t, os⟩ := by
  have hpass := PySem.F.store_Exception.passes (.ref x)
  unfold Builtin.«object.__setattr__»
  repeat (first | rw [refuse_eq] | (rw [refuseLoop_ref, refuseLoop_ref, hpass]) | (with_reducible refine wpAny_loadPart_at hx ?_; rw [hc]) | with_reducible refine wpAny_mroOf_exc hC ?_ | with_reducible refine Looks.at hl ?_ | wp_step)
  rw [hdn, if_neg (by simp [typeHasDict])]
  split
  · rename_i hcd
    cases hcd
  split
  · rename_i c hcd
    exact absurd hcd (hnc c)
  · have hx₁ : (h.push { cls := .type "dict", data := .dict #[] }).get? x = some o := Heap.get?_push_of_some _ hx
    have hxs : x ≠ h.objs.size := Nat.ne_of_lt (Heap.lt_size hx)
    refine wpAny_bind (wpAny_alloc' ?_)
    refine wpAny_bind (wpAny_update' hx₁ ?_)
    refine wpAny_pure ?_
    have hgd : ((h.push { cls := .type "dict", data := .dict #[] }).update x fun o => { cls := o.cls, dict := some h.objs.size, data := o.data, slots := o.slots }).get? h.objs.size
        = some { cls := .type "dict", data := .dict #[] } :=
      (Heap.get?_update_ne _ _ _ _ hxs.symm).trans (Heap.get?_push_at rfl rfl)
    have hnd : ((h.push { cls := .type "dict", data := .dict #[] }).update x fun o => { cls := o.cls, dict := some h.objs.size, data := o.data, slots := o.slots }).Ns h.objs.size (fun _ => none) :=
      ⟨_, #[], _, hgd, rfl, fun e he => absurd he (by simp), fun _ => rfl⟩
    show wpAny _ _ (storeInDict h.objs.size (.str name tk) name v) _ _ _
    unfold storeInDict newKeyGuard
    refine wpAny_bind (wpAny_pure (wpAny_bind (wpAny_nsSet1 (Heap.Ns1.of_empty hnd) fun h' hn' hs => ?_)))
    obtain ⟨oD, esD, epD, hoD, hdD, hcD⟩ := hn'.count (Within.cons name v Within.nil)
    refine wpAny_bind (wpAny_lookBehind hoD (by rw [hdD]; exact pastItsLine_dict (Nat.le_trans hcD (by rw [List.length_cons, List.length_nil, sizeLine_eq]; omega))) ?_)
    wp_walk
    refine hq h' _ h.objs.size (fun b ob hbx hb => ?_) ?_
    · exact (hs.2 b (Nat.ne_of_lt (Heap.lt_size hb))).trans ((Heap.get?_update_ne _ _ _ _ hbx).trans (Heap.get?_push_of_some _ hb))
    · refine (hs.2 x hxs).trans (Heap.get?_update_self _ hx₁ ?_)
      have hfr := (Heap.get?_some_iff.mp hx).2
      obtain ⟨oc, od, odt, osl⟩ := o
      cases odt <;> first | rfl | exact hfr

theorem exc_sa_check {M : Model} {x : Addr} {o : Obj} {nameV v : Value} {Q : Unit → Shared → Prop}
    (hC : h.get? C = some (excClassObj nm q C N bs (exBm D) true sn sub ab col dd k0 k1 k2 k3 k5 "Exception.__new__")) (hx : h.get? x = some o) (hc : o.cls = .ref C) (hq : Q () ⟨h, g, d, t, os⟩) :
    wpAny M A (checkBuiltinCall "object.__setattr__" ⟨[.ref x, nameV, v], []⟩) Q E ⟨h, g, d, t, os⟩ := by
  have SF := PySem.F.store_Exception
  have hcB : (Value.ref C :: exBm D).contains (.type "object") = true := by rw [List.contains_cons, List.contains_cons, SF.hasOwner, Bool.or_true, Bool.or_true]
  simp only [checkBuiltinCall, SF.kind, SF.split]
  refine wpAny_bind ?_
  unfold isInstance
  repeat (first | (with_reducible refine wpAny_loadPart_at hx ?_; rw [hc]) | (with_reducible refine wpAny_isSubtype_exc hC ?_; rw [hcB]) | wp_step)
  exact hq

theorem exc_set {x : Addr} {o : Obj} {name : Str} {v : Value} {Q : Unit → Shared → Prop}
    (hC : h.get? C = some (excClassObj nm q C N bs (exBm D) true sn sub ab col dd k0 k1 k2 k3 k5 "Exception.__new__"))
    (hs : Looks (model prog w) h (typeLookup (.ref C) "__setattr__") (some (.builtin "object.__setattr__"))) (hl : Looks (model prog w) h (typeLookup (.ref C) name) none) (hx : h.get? x = some o) (hc : o.cls = .ref C) (hnc : ∀ c, o.data ≠ .cls c) (hdn : o.dict = none)
    (hq : ∀ h' tk' dx, (∀ b ob, b ≠ x → h.get? b = some ob → h'.get? b = some ob) → h'.get? x = some { cls := o.cls, dict := some dx, data := o.data, slots := o.slots } → Q () ⟨h', g, d, tk', os⟩) :
    wpAny (model prog w) A (setAttr (.ref x) name v) Q E ⟨h, g, d, t, os⟩ := by
  have SF := PySem.F.store_Exception
  have f3 := SF.slot.bind (.ref x)
  unfold setAttr callSpecial? specialOf
  repeat (any_goals (first | assumption | (with_reducible refine wpAny_loadPart_at hx ?_; rw [hc]) | (with_reducible refine Looks.at hs ?_) | wp_step))
  refine codeAny_call_builtin SF.slot.plain SF.entry (exc_sa_check hC hx hc (exc_store hC hl hx hc hnc hdn fun h' tk' dx k1 k2 => ?_))
  repeat (any_goals (first | assumption | wp_step))
  exact hq h' tk' dx k1 k2
end
end Mine

namespace Mine

section
variable {prog : Program} {w : World} {A : Around} {s : Shared} {h : Heap} {tk : Nat} {K : Frag} {h0 : Heap}
/-- the call of a def that closes over __class__ -/
theorem enterX {f cc : Addr} {R : Result → Shared → Prop} {name qual : Str} {params : Arguments} {body : List Stmt} {scope : Scope} {dV kV doc pm cdv ct oc : Value} {an od : Option Addr} {osl : Array (Option Value)} {vals : List Value}
    {binds : List (Str × Value)} {n : Nat} (r : Rm (n + 1) A) (B : Bs K h0 h)
    (ho : K.lookup f = some ⟨oc, od, .func (ksFn name qual params body scope dV kV doc pm an cdv ct cc), osl⟩) (hcd : codeIn K cdv qual = true)
    (hbind : bindArgs (ksFn name qual params body scope dV kV doc pm an cdv ct cc) ⟨vals, []⟩ = pure binds) (hloc : (binds.all fun y => scope.names.lookup y.1 == some .local) = true)
    (hbody : ∀ L h₁ tk₁, L = h.objs.size → Kx Non h h₁ → h₁.Ns L (fun y => binds.reverse.lookup y) →
      _root_.PySem.wpAt (model prog w) (A.deeper (ksEnv qual scope L f cdv cc)) (.func body (ksEnv qual scope L f cdv cc)) (execs body (ksEnv qual scope L f cdv cc)) (fun fl s' => R (.ok (.ret (match fl with | .ret v => v | _ => .none))) s')
        (fun e s' => wpAny (model prog w) (A.deeper (ksEnv qual scope L f cdv cc)) (leaving (ksEnv qual scope L f cdv cc) e) (fun _ s'' => R (.error e) s'') (fun e' s'' => R (.error e') s'') s')
        (Sh s h₁ tk₁))
    (hcell : ∀ x ∈ scope.names, x.2 ≠ .cell := by decide) (hco : scope.isCoroutine = false := by rfl) (hgen : scope.isGenerator = false := by rfl) (hk : scope.kind = .function := by rfl) :
    codeAny (model prog w) A (.call (.ref f) ⟨vals, []⟩) R (Sh s h tk) := by
  refine ks_codeAny_call_defAt (fd := ksFn name qual params body scope dV kV doc pm an cdv ct cc) (body := body) (binds := binds) r.room (B.inK _ _ ho) rfl B.nolim (codeRec_of B.inK hcd) rfl (BindsTo.of_eq hbind) hcell (fun y hy => ?_) (fun h₁ hns k => ?_) hco hgen hk
  · have := List.all_eq_true.mp hloc y hy
    exact eq_of_beq this
  · exact hbody _ h₁ _ rfl (.ofAll k) hns
end

section
variable {w : World} {A : Around} {s : Shared} {h : Heap} {tk : Nat} {h0 : Heap} {R : Result → Shared → Prop}
abbrev exObj (dct : Option Addr) (t : Addr) : Obj := { cls := .ref 60, dict := dct, data := .fields #[.ref t, .none, .none, .none, .bool false, .none] }
theorem g_super : nsIn (kf w.params) mainGlobals "super" = some none := by k_is
theorem tf_code : ∃ ccl cdd vs ccs tf, (kf w.params).lookup 36 = some ⟨ccl, cdd, .fields vs, ccs⟩ ∧ vs[2]? = some (.str (Str.ofString "/claim/cut.py") tf) := ⟨_, _, _, _, _, by k_is, rfl⟩
theorem tf_cls : ∃ nm q N bs sn sub ab col dd k0 k1 k2 k3 k5, (kf w.params).lookup 60 = some (excClassObj nm q 60 N bs (exBm 47) true sn sub ab col dd k0 k1 k2 k3 k5 "Exception.__new__") := ⟨_, _, _, _, _, _, _, _, _, _, _, _, _, _, by k_is⟩
theorem tf_cell : ∃ cl cld csl, (kf w.params).lookup 25 = some ⟨cl, cld, .cell (some (.ref 47)), csl⟩ := ⟨_, _, _, by k_is⟩
theorem tf_47 : ∃ cd, clsIn (kf w.params) 47 = some cd := ⟨_, by k_is⟩
theorem tf_sub : mroIn (kf w.params) 60 (.ref 47) = some true := by k_is
theorem tf_sub2 : mroIn (kf w.params) 60 (.type "Exception") = some true := by k_is
theorem tf_op : nsIn (kf w.params) cStatics "thirdparty.any" = some none := by k_is
theorem tf_al : alongIn (kf w.params) (Str.ofString "__init__") [.type "Exception", .type "BaseException", .type "object"] = some (some exInit) := by kernel_rfl
theorem tf_sa : findIn (kf w.params) (.ref 60) "__setattr__" = some (some (.builtin "object.__setattr__")) := by k_is
theorem tf_what : findIn (kf w.params) (.ref 60) (Str.ofString "what") = some none := by k_is
theorem tf_init : findIn (kf w.params) (.ref 60) "__init__" = some (some (.ref 37)) := by k_is

theorem fault_init {e t0 : Addr} {x : Str} {tx : Tok} {n : Nat} (r : Rm (n + 1) A) (B : Bs (kf w.params) h0 h) (he : h.get? e = some (exObj none t0)) (hn : h0.get? e = none)
    (hR : ∀ h' tk' dx t1, (∀ b o, b ≠ e → h.get? b = some o → h'.get? b = some o) → h'.get? e = some (exObj (some dx) t1) → R (.ok (.ret .none)) (Sh s h' tk')) :
    codeAny (model prg w) A (.call (.ref 37) ⟨[.ref e, .str x tx], []⟩) R (Sh s h tk) := by
  obtain ⟨ccl, cdd, vs, ccs, tf, hcode, hvs⟩ := tf_code (w := w)
  obtain ⟨cl, cld, csl, hcell⟩ := tf_cell (w := w)
  obtain ⟨cd47, h47⟩ := tf_47 (w := w)
  obtain ⟨nm, q, N, bs, sn, sub, ab, col, dd, k0, k1, k2, k3, k5, hC⟩ := tf_cls (w := w)
  refine enterX r B (by k_is) (by k_is) (binds := [(Str.ofString "self", .ref e), (Str.ofString "what", .str x tx)]) rfl (by rfl) (fun L h₁ tk₁ hL k₁ ns => ?_)
  have B₁ := B.non k₁
  have X := B₁.inK
  have he₁ := k₁.all _ _ he
  obtain ⟨oD, hD1, hD2⟩ : ∃ oD, h₁.get? 47 = some oD ∧ oD.data = .cls cd47 := by
    have := h47
    unfold clsIn at this
    split at this
    · rename_i c d cd' sl ho
      cases this
      exact ⟨_, X _ _ ho, rfl⟩
    · cases this
  refine ks_wpAt_execs_cons (ks_wpAt_Expr_any (ks_wpAt_MethodCall (ks_wpAt_super_base rfl rfl (by decide) rfl (X _ _ (by k_is)) rfl rfl rfl (X _ _ hcode) rfl hvs (by rfl) (by decide +kernel) ?_)))
  obtain ⟨mg, mb, n1, n2, n3⟩ := B₁.g
  refine ks_loadName_global rfl rfl (loadGlobal_builtin (n1.keeps B₁.keep) (mg_none_of B₁.K n1 g_super) (n2.keeps B₁.keep) ((n3 _ (by decide)).trans (by first | boot_by_name | rfl | kernel_rfl)) ⟨rfl, ?_⟩)
  refine wpAny_loadName_free rfl rfl rfl ⟨_, X _ _ hcell, rfl⟩ ?_
  refine wpAny_loadName_local rfl rfl ns rfl ?_
  refine ks_wpAny_isType_cls hD1 hD2 ⟨rfl, ?_⟩
  refine ks_wpAny_call_super hD1 hD2 he₁ rfl (fun c e => by cases e) (looks_mroIn X tf_sub) (fun h₂ e₂ k₂ => ?_)
  have K₂ : Kx Non h₁ h₂ := .ofAll k₂
  have B₂ := B₁.non K₂
  have X₂ := B₂.inK
  have he₂ := k₂ _ _ he₁
  have hC₂ := X₂ _ _ hC
  have heC : e ≠ 60 := by
    rintro rfl
    have := B.K _ _ hC
    rw [hn] at this; cases this
  refine su_meth e₂ (looks_opaque X₂ tf_op) (fun A Q E s k q => wpAny_mroOf_exc (k _ _ hC₂) q) (l := [.type "Exception", .type "BaseException", .type "object"]) (by rfl) X₂ tf_al heC (by decide) he₂ rfl (looks_mroIn X₂ tf_sub2) ?_
  have K₃ : Kx Non h₂ (h₂.push (mwObj e)) := Kx.push _ _
  have hns₃ := (Ns.kx (Ns.kx ns K₂ id) K₃ id)
  refine mw_with (x := e) (by rfl) (evalArgs_plain (args_cons (nm_L hns₃ (v := .str x tx) rfl (args_nil ⟨Heap.get?_push_at rfl rfl, ?_⟩)) rfl))
  refine exi_call (Heap.get?_push_at rfl rfl) (by decide) (K₃.all _ _ hC₂) (K₃.all _ _ he₂) fun h₄ t1 k₄ _ he₄ => ?_
  have hk₄ : Kx (· = e) (h₂.push (mwObj e)) h₄ := Kx.but (fun b o hb => k₄ b o hb) (fun b vs hb => by rw [hb]; exact not_tp_of_cls (K₃.all _ _ he₂) (by show Value.ref 60 ≠ Value.type "tuple"; intro q; cases q) vs)
  have heL : e ≠ L := by
    rintro rfl
    rw [get_none_of_ge (Nat.le_of_eq hL.symm)] at he; cases he
  have ns₄ := Ns.kx hns₃ hk₄ (fun q => heL q.symm)
  have C60 : (60 : Addr) ≠ e := heC.symm
  have keepK : ∀ b o, h0.get? b = some o → h₄.get? b = some o := fun b o q => k₄ b o (fun z => by rw [z, hn] at q; cases q) (K₃.all _ _ (B₂.keep b o q))
  have X₄ : (kf w.params).In h₄ := fun a o q => keepK a o (B.K a o q)
  refine ks_wpAt_execs_cons (ks_wpAt_Assign_Attr (_root_.PySem.wpAt_of_wpAny (nm_L ns₄ (v := .str x tx) rfl (nm_L ns₄ (v := .ref e) rfl ?_))))
  refine exc_set (X₄ _ _ hC) (looks_findIn X₄ tf_sa) (looks_findIn X₄ tf_what) he₄ rfl (fun c q => by cases q) rfl fun h₅ tk₅ dx k₅ he₅ => ?_
  exact _root_.PySem.wpAt_of_wpAny (wpAny_execs_nil (hR h₅ tk₅ dx t1 (fun b o hb q => k₅ b o hb (k₄ b o hb (K₃.all _ _ (k₂ _ _ (k₁.all _ _ q))))) he₅))
end
end Mine

namespace Mine

section
variable {w : World} {A : Around} {s : Shared} {h : Heap} {tk : Nat} {h0 : Heap} {R : Result → Shared → Prop} {E : Value → Shared → Prop} {env : Env}

/-- raise, a made TermFault -/
theorem x_raise {ex : Expr} {pos : Pos} {rest : List Stmt} {Q : Flow → Shared → Prop} (hh : A.handled = none)
    (hv : wpAny (model prg w) A (eval ex env) (fun v s₁ => ∃ e dx t1, v = .ref e ∧ (kf w.params).In s₁.heap ∧ s₁.heap.get? e = some (exObj (some dx) t1) ∧ E (.ref e) s₁) E s) :
    wpAny (model prg w) A (execs (.Raise (some ex) none pos :: rest) env) Q E s := by
  obtain ⟨nm, q, N, bs, sn, sub, ab, col, dd, k0, k1, k2, k3, k5, hK⟩ := tf_cls (w := w)
  have hcB : (Value.ref 60 :: exBm 47).contains (.type "BaseException") = true := by decide
  refine wpAny_execs_cons ?_
  first | rw [arm_exec_Raise] | unfold exec | skip
  simp only [evalOpt, Option.map]
  refine wpAny_bind (wpAny_standAt ?_)
  unfold raiseStmt
  refine wpAny_bind (wpAny_bind (wpAny_mono hv (fun v s₁ h₁ => ?_) fun _ _ x => x))
  obtain ⟨e, dx, t1, rfl, X, he, hE⟩ := h₁
  have hC := X _ _ hK
  obtain ⟨hp, g, d, tk, os⟩ := s₁
  repeat (first | with_reducible refine wpAny_loadPart_at he ?_ | with_reducible refine wpAny_loadPart_at hC ?_ | (with_reducible refine wpAny_isSubtype_exc hC ?_; rw [hcB]) | wp_step)
  exact wpAny_raiseNew_none hh hE
end
end Mine

namespace Mine

section
variable {w : World} {A : Around} {s : Shared} {h : Heap} {tk : Nat} {h0 : Heap} {R : Result → Shared → Prop} {E : Value → Shared → Prop} {env : Env}

/-- TermFault(text) -/
theorem mk_fault {x : Str} {tx : Tok} {n : Nat} {Q : Value → Shared → Prop} (r : Rm (n + 2) A) (B : Bs (kf w.params) h0 h)
    (hQ : ∀ h' tk' e dx t1, h.get? e = none → Kx Non h h' → h'.get? e = some (exObj (some dx) t1) → Q (.ref e) (Sh s h' tk')) :
    wpAny (model prg w) A (call (.ref 60) [.str x tx]) Q E (Sh s h tk) := by
  obtain ⟨nm, q, N, bs, sn, sub, ab, col, dd, k0, k1, k2, k3, k5, hK⟩ := tf_cls (w := w)
  obtain ⟨o37, h37, c37⟩ : ∃ o, (kf w.params).lookup 37 = some o ∧ o.cls = .type "function" := ⟨_, by k_is, rfl⟩
  refine exc_call (by decide) (by decide) (by decide) (B.inK _ _ hK) (fun h' k => looks_findIn (fun a o q => k _ _ (B.inK a o q)) tf_init) (B.inK _ _ h37) c37 (fun h₁ e hm => ?_)
  obtain ⟨t, he, ht, htup⟩ := hm.there
  have k₁ : Kx Non h h₁ := .ofAll hm.keeps
  have r' : Rm (n + 1) (A.under (.builtin "type.__call__" ⟨[.ref 60, .str x tx], []⟩)) := by
    obtain ⟨h1, h2, h3⟩ := r
    refine ⟨h1, ?_, ?_⟩
    · show A.depth + 1 + (n + 1) ≤ 900; omega
    · show A.units + 1 + 20 * (n + 1) ≤ 9000; omega
  refine wpAny_call (fault_init (n := n) (tk := tk) (s := s) (h := h₁) r' (B.non k₁) he (B.off_ge hm.new) fun h₂ tk₂ dx t1 k₂ he₂ => ⟨rfl, ?_⟩)
  exact hQ h₂ tk₂ e dx t1 hm.new (.ofAll fun b o q => k₂ b o (fun z => by rw [z, hm.new] at q; cases q) (hm.keeps _ _ q)) he₂
end
end Mine

namespace Mine

section
variable {w : World} {A : Around} {s : Shared} {h : Heap} {tk : Nat} {h0 : Heap} {R : Result → Shared → Prop} {E : Value → Shared → Prop} {env : Env}

theorem e_fstr {value : Expr} (y : Str) {k : Nat} {p1 p2 p3 : Pos} {Q : Value → Shared → Prop} (hy : y.length ≤ 1000)
    (hv : wpAny (model prg w) A (eval value env) (fun v s₁ => ∃ x t h' tk', v = .str x t ∧ x.length ≤ 1000 ∧ s₁ = Sh s h' tk' ∧ ∀ z t' tk'', Q (.str z t') (Sh s h' tk'')) E (Sh s h tk)) :
    wpAny (model prg w) A (eval (.JoinedStr [.FormattedValue value (-1) none p1, .Constant (.str y) k p2] p3) env) Q E (Sh s h tk) := by
  refine wpAny_JoinedStr ?_
  show wpAny _ _ (eval (.FormattedValue value (-1) none p1) env) _ _ _
  refine wpAny_FormattedValue_plain (wpAny_mono hv (fun v s₁ h₁ => ?_) fun _ _ z => z)
  obtain ⟨x, t, h', tk', rfl, hx, rfl, hQ⟩ := h₁
  have hx' : x.length ≤ sizeLine := by rw [sizeLine_eq]; omega
  have key : ∀ (t' : Tok) (tk'' : Nat), ∃ y₁ t₁, (Value.str x t' : Value) = .str y₁ t₁ ∧ (Str.empty ++ y₁).length ≤ sizeLine ∧ Joins (model prg w) A E (evalEach [.Constant (.str y) k p2] env) (Str.empty ++ y₁)
      (fun out s₁ => out.length ≤ sizeLine ∧ Q (.str out s₁.toks) { s₁ with toks := s₁.toks + 1 }) (Sh s h' tk'') := fun t' tk'' => by
    have l0 : (Str.empty ++ x).length = x.length := by rw [strLen_append]; show 0 + x.length = _; omega
    refine ⟨x, t', rfl, by rw [l0]; exact hx', ?_⟩
    show wpAny _ _ (eval (.Constant (.str y) k p2) env) _ _ _
    refine e_str fun t₂ tk₂ => ⟨y, t₂, rfl, ?_, ?_⟩
    · rw [strLen_append, l0, sizeLine_eq]; omega
    · exact ⟨by rw [strLen_append, l0, sizeLine_eq]; omega, hQ _ _ _⟩
  exact wpAny_formatField_str (key _ _) (key _ _) hx'

theorem g_tf : nsIn (kf w.params) mainGlobals "TermFault" = some (some (.ref 60)) := by k_is
theorem k_tf : keepIn (kf w.params) (.ref 60) = true := by k_is

/-- a made TermFault leaves the frame it was raised in -/
theorem leave_new {Q : Unit → Shared → Prop} {base h₃ : Heap} {outer : List Env} {m : Str → Option Value} {e dx t1 : Addr} (hfr : A.frames = some outer) (hl : h.FunFrames base outer) (hkb : base.StaysIn h) (kk : Kx Non h h₃)
    (ns : h₃.Ns env.locals m) (hL : h.get? env.locals = none) (he₃ : h₃.get? e = some (exObj (some dx) t1)) (he : h.get? e = none)
    (hR : ∀ h₄, Heap.FlyingW base outer e (.ref 60) (.ref t1) h₄ → h.UpToSlots h₄ → Q () (Sh s h₄ tk)) (hk : env.scope.kind ≠ .module) (hf : env.frame = some env.locals) :
    wpAny (model prg w) (A.deeper env) (leaving env (.ref e)) Q E (Sh s h₃ tk) := by
  have st : base.StaysIn h₃ := fun b o q => kk.all b o (hkb b o q)
  have bn : ∀ b, h.get? b = none → base.get? b = none := fun b hb => by
    cases q : base.get? b with
    | none => rfl
    | some o => rw [hkb b o q] at hb; cases hb
  have hl₃ : h₃.FunFrames base (env :: outer) := Heap.FunFrames.cons hk hf ns (bn _ hL) (hl.of_keeps fun b o hb _ => ⟨o, kk.all b o hb, rfl⟩)
  refine wpAny_leaving_firstW (s := Sh s h₃ tk) (Around.frames_deeper hfr) hl₃ hf he₃ st (bn e he) rfl rfl rfl fun h₄ hL₄ => ?_
  obtain ⟨z1, ⟨_, _, z2⟩, z3, z4⟩ := hL₄
  exact hR h₄ ⟨z1, bn e he, z2, z3⟩ ((Heap.UpToSlots.of_keeps kk.all).trans z4)

/-- require, of what is no op of a ground term -/
theorem require_bad {b : Addr} {x : Str} {t : Tok} {n : Nat} {base : Heap} {outer : List Env} (r : Rm (n + 3) A) (B : Bs (kf w.params) h0 h) (hx : x.cps.size ≤ 1000) (ho : okOp x = false)
    (hfr : A.frames = some outer) (hl : h.FunFrames base outer) (hkb : base.StaysIn h)
    (hR : ∀ h' tk' e a0, Heap.FlyingW base outer e (.ref 60) a0 h' → h.UpToSlots h' → R (.error (.ref e)) (Sh s h' tk')) :
    codeAny (model prg w) A (.call (.ref 129) ⟨[.ref b, .str x t], []⟩) R (Sh s h tk) := by
  refine enterE r B (by k_is) (by k_is) (binds := [(Str.ofString "self", .ref b), (Str.ofString "op", .str x t)]) rfl (by rfl) (fun L h₁ tk₁ hL r₁ B₁ k₁ hm F => ?_)
  have hLn : h.get? L = none := get_none_of_ge (Nat.le_of_eq hL.symm)
  unfold okOp at ho
  refine x_if (wpAny_isTrue_BoolOp (wpAny_allTrue_Or_cons (wpAny_isTrue_Not (wpAny_isTrue_value (Call_ (nm_K B₁ g_isop (cw_K (K := kf w.params) (h0 := h0) k_isop (ar_cons (nm_L F.ns (v := .str x t) rfl (ar_nil ⟨B₁, wpAny_call ?_⟩))))))))))
  refine isop_spec (n := n + 1) r₁ B₁ (by omega) fun h₂ tk₂ k₂ => wpAny_truthy_bool ?_
  cases hop : isOp x with
  | false =>
    simp only [Bool.not_false, if_true]
    refine x_raise r₁.h (Call_ (nm_K (k₂.bs B₁) g_tf (cw_K (K := kf w.params) (h0 := h0) k_tf (ar_cons (e_fstr _ (by decide) (nm_L (F.non k₂).ns (v := .str x t) rfl ⟨x, t, h₂, tk₂, rfl, hx, rfl, fun z t' tk'' => ar_nil ⟨k₂.bs B₁, mk_fault (n := n) r₁ (k₂.bs B₁) fun h₃ tk₃ e dx t1 he k₃ he₃ => ⟨e, dx, t1, rfl, ((k₂.trans k₃).bs B₁).inK, he₃, ?_⟩⟩⟩))))))
    exact leave_new hfr hl hkb (k₁.trans (k₂.trans k₃)) (F.non (k₂.trans k₃)).ns hLn he₃ (k₁.gone (k₂.gone he)) (fun h₄ z1 z2 => hR h₄ tk₃ e _ z1 z2) (by show ScopeKind.function ≠ ScopeKind.module; decide) rfl
  | true =>
    simp only [Bool.not_true, Bool.false_eq_true, if_false]
    refine wpAny_allTrue_Or_cons (wpAny_isTrue_Compare1 (Subscript_ (nm_L (F.non k₂).ns (v := .str x t) rfl (e_int fun t3 tk3 => sub_st (isOp_pos hop) fun t4 tk4 => e_str fun t5 tk5 => eq_str (wpAny_truthy_bool ?_)))))
    have hq : (headS x == Str.ofString "?") = true := by
      rw [hop] at ho
      show (headS x == qm) = true
      simpa using ho
    rw [hq]
    simp only [if_true]
    refine x_raise r₁.h (Call_ (nm_K (k₂.bs B₁) g_tf (cw_K (K := kf w.params) (h0 := h0) k_tf (ar_cons (e_fstr _ (by decide) (nm_L (F.non k₂).ns (v := .str x t) rfl ⟨x, t, h₂, tk5, rfl, hx, rfl, fun z t' tk'' => ar_nil ⟨k₂.bs B₁, mk_fault (n := n) r₁ (k₂.bs B₁) fun h₃ tk₃ e dx t1 he k₃ he₃ => ⟨e, dx, t1, rfl, ((k₂.trans k₃).bs B₁).inK, he₃, ?_⟩⟩⟩))))))
    exact leave_new hfr hl hkb (k₁.trans (k₂.trans k₃)) (F.non (k₂.trans k₃)).ns hLn he₃ (k₁.gone (k₂.gone he)) (fun h₄ z1 z2 => hR h₄ tk₃ e _ z1 z2) (by show ScopeKind.function ≠ ScopeKind.module; decide) rfl
end
end Mine

namespace Mine

section
variable {w : World} {A : Around} {s : Shared} {h : Heap} {tk : Nat} {h0 : Heap} {R : Result → Shared → Prop} {E : Value → Shared → Prop} {env : Env} {b dx an am aw ad : Addr} {tr : List Tree}

theorem put_bad {t : Tree} {v : Value} {base : Heap} {outer : List Env} (r : Rm (ht t + 5) A) (B : Bs (kf w.params) h0 h) (K : Bank w h0 h b dx an am aw ad tr) (hT : IsT h t v) (hsz : (subs t).length ≤ 100) (hht : ht t ≤ 50)
    (hops : ∀ u ∈ subs t, u.op.cps.size ≤ 1000) (hbad : ∃ u ∈ subs t, okOp u.op = false) (hfr : A.frames = some outer) (hl : h.FunFrames base outer) (hkb : base.StaysIn h)
    (hR : ∀ h' tk' e a0, Heap.FlyingW base outer e (.ref 60) a0 h' → h.UpToSlots h' → R (.error (.ref e)) (Sh s h' tk')) :
    codeAny (model prg w) A (.call (.ref 136) ⟨[.ref b, v], []⟩) R (Sh s h tk) := by
  refine enterE r B (by k_is) (by k_is) (binds := [(Str.ofString "self", .ref b), (Str.ofString "t", v)]) rfl (by rfl) (fun L h₁ tk₁ hL r₁ B₁ k₁ hm F => ?_)
  have hL1 : ∀ b, F.own b → h.get? b = none := fun b hb => get_none_of_ge (hm b hb).1
  refine x_for (Call_ (nm_K B₁ g_parts (cw_K (K := kf w.params) (h0 := h0) k_parts (ar_cons (nm_L F.ns (v := v) rfl (ar_nil ⟨B₁, wpAny_call ?_⟩))))))
  refine parts_spec t (r₁.le (by omega)) B₁ (hT.kx k₁) (by omega) (by omega) fun h₂ tk₂ D vs hD l2 pv k₂ => ?_
  have F2 := F.non k₂
  have kk2 := k₁.trans k₂
  have hlen : vs.length = (subs t).length := (Paired.length pv).symm
  refine for_ls r₁.h l2 (.inr ⟨⟨_, _, _, rfl⟩, fun v' hv' => ?_⟩) F.own (fun c hc => ⟨F2.lt hc, fun e => ?_⟩)
    (fun i h' => ∃ m' cm', Fx F.env m' cm' h' ∧ m' (Str.ofString "self") = some (.ref b) ∧ m' (Str.ofString "t") = some v ∧ PartsV (ht t) h' (subs t) vs ∧ Kx Non h h' ∧ ∀ j u, j < i → (subs t)[j]? = some u → okOp u.op = true)
    ⟨_, _, F2, rfl, rfl, pv, kk2, fun j u hj => absurd hj (Nat.not_lt_zero _)⟩ ?_ ?_ ?_
  · obtain ⟨i, hi⟩ := List.mem_iff_getElem?.mp hv'
    obtain ⟨u, _, b', _, _, _, e, _⟩ := Paired.get' pv hi
    exact ⟨b', e⟩
  · obtain ⟨o, ho⟩ := F.live hc
    rw [e, hD] at ho; cases ho
  · rintro i h8 h9 ⟨m', cm', F', e1, e2, pv', kk, al⟩ k
    exact ⟨m', cm', F'.kx k fun c hc hm' => Nat.lt_irrefl _ (hc ▸ F2.lt hm'), e1, e2, pv'.kx k, kk.more k fun c hc => hc ▸ kk2.gone_ge (Nat.le_refl _), al⟩
  · rintro i v' h8 tk8 hv ⟨m', cm', F', e1, e2, pv', kk, al⟩
    obtain ⟨u, hu, b', p', path, vt, rfl, tb, tpath, hpl, iu⟩ := Paired.get' pv' hv
    have hmem : u ∈ subs t := List.mem_of_getElem? hu
    refine as_T2 r₁.h tb fun h9 k9 => as_L (F'.non k9) fun h10 tk10 F10 k10 => as_L F10 fun h11 tk11 F11 k11 => ?_
    have m11 : Kx F.own h8 h11 := (k9.ofNon.trans (k10.mono fun c hc => .inl hc)).trans (k11.mono fun c hc => .inl hc)
    have kk11 := kk.more m11 hL1
    obtain ⟨a, to, kvs, rfl, Ta, ik⟩ := (iu.kx m11).open
    refine x_expr (e_meth (s := s) (fi_req w) (ty_req w) no_req (ke_req w) (nm_L F11.ns (v := .ref b) ((if_neg (by decide)).trans ((if_neg (by decide)).trans e1)) ⟨b, dx, an, am, aw, ad, h11, tk11, rfl, rfl, (K.non kk11).bk, kk11.bs B, ?_⟩))
    refine ar_cons (Subscript_ (nm_L F11.ns (v := .ref a) (if_pos rfl) (e_int fun t12 tk12 => sub_tp Ta (by decide) (by decide) (x := .str u.op to) rfl (ar_nil ⟨kk11.bs B, wpAny_call ?_⟩))))
    cases hop : okOp u.op with
    | true =>
      refine require_ok (n := ht t + 2) r₁ (kk11.bs B) (hops u hmem) hop fun h13 tk13 k13 => ⟨rfl, wpAny_execs_nil ?_⟩
      refine ⟨h13, tk13, rfl, m11.trans k13.ofNon, _, _, F11.non k13, (if_neg (by decide)).trans ((if_neg (by decide)).trans e1), (if_neg (by decide)).trans ((if_neg (by decide)).trans e2), (pv'.kx m11).kx k13, kk11.trans k13, fun j u' hj hu' => ?_⟩
      rcases Nat.lt_or_ge j i with q | q
      · exact al j u' q hu'
      · obtain rfl : j = i := by omega
        rw [hu] at hu'; cases hu'; exact hop
    | false =>
      have hLn : h.get? L = none := get_none_of_ge (Nat.le_of_eq hL.symm)
      have bn : base.get? L = none := by
        cases q : base.get? L with
        | none => rfl
        | some o => rw [hkb L o q] at hLn; cases hLn
      refine require_bad (n := ht t + 1) r₁ (kk11.bs B) (hops u hmem) hop (Around.frames_deeper hfr) (Heap.FunFrames.cons (by show ScopeKind.function ≠ ScopeKind.module; decide) rfl F11.ns bn (hl.of_keeps fun b o hb _ => ⟨o, kk11.all b o hb, rfl⟩)) (fun b o q => kk11.all b o (hkb b o q)) fun h13 tk13 e a0 fl up => ?_
      exact wpAny_leaves_onW (Around.frames_deeper hfr) rfl fl fun h14 fl' up' => hR h14 tk13 e a0 fl' (((Heap.UpToSlots.of_keeps kk11.all).trans up).trans up')
  · rintro h' tk' ⟨m', cm', F', e1, e2, pv', kk, al⟩
    obtain ⟨u, hu, hf⟩ := hbad
    obtain ⟨j, hj⟩ := List.mem_iff_getElem?.mp hu
    have := al j u (by rw [hlen]; exact (List.getElem?_eq_some_iff.mp hj).1) hj
    rw [hf] at this; cases this
end
end Mine

namespace Mine

def badW (x : Str) : Bool := !isWord x || headS x == qm
def badsOf (us : List Tree) : List Str := (us.filter fun u => badW u.op).map (·.op)
theorem badsOf_snoc (us : List Tree) (u : Tree) : badsOf (us ++ [u]) = badsOf us ++ (if badW u.op then [u.op] else []) := by
  unfold badsOf
  rw [List.filter_append, List.map_append]
  congr 1
  cases h : badW u.op <;> simp [h]
theorem isWord_pos {x : Str} (h : isWord x = true) : 0 < x.cps.size := by
  unfold isWord at h
  rw [Bool.and_eq_true] at h
  by_cases h0 : x.cps.size = 0
  · have : x = Str.ofString "" := by
      cases x with
      | mk a =>
        have : a = #[] := Array.size_eq_zero_iff.mp h0
        subst this; rfl
    rw [this] at h; simp at h
  · omega

theorem tree_rcAt {s : Shared} : ∀ (t u : Tree) {A : Around} {v w : Value}, IsT s.heap t v → IsT s.heap u w → A.units + ht t < 9800 → SeqAt.RcAt A s v w (decide (t = u)) := by
  intro t u A v w x y hu
  obtain ⟨op, ks⟩ := t
  obtain ⟨a, t1, vs, rfl, T1, r1⟩ := x.open
  obtain ⟨b, t2, ws, rfl, T2, r2⟩ := y.open
  have hu' : A.units < cLine := by show _ < 9900; omega
  have R := SeqAt.RcAt.tuples (A := A) (e := fun j => match j with | 0 => op == u.op | j + 1 => decide (ks[j]? = u.kids[j]?)) T1.isTuple T2.isTuple hu' (fun j h1 h2 => ?_)
  · have hl1 : vs.length = ks.length := r1.length
    have hl2 : ws.length = u.kids.length := r2.length
    have key : ((List.range (min (Value.str (Tree.node op ks).op t1 :: vs).toArray.size (Value.str u.op t2 :: ws).toArray.size)).all (fun j => match j with | 0 => op == u.op | j + 1 => decide (ks[j]? = u.kids[j]?)) &&
        (Value.str (Tree.node op ks).op t1 :: vs).toArray.size == (Value.str u.op t2 :: ws).toArray.size) = decide (Tree.node op ks = u) := by
      rw [Bool.eq_iff_iff, Bool.and_eq_true, List.all_eq_true, beq_iff_eq, decide_eq_true_eq]
      simp only [List.size_toArray, List.length_cons, hl1, hl2, List.mem_range]
      constructor
      · rintro ⟨hall, hsz⟩
        cases u with
        | node op' ks' =>
          have h0 := hall 0 (by omega)
          have e0 : op = op' := by simpa [Tree.op] using h0
          have e1 : ks = ks' := by
            refine List.ext_getElem? fun j => ?_
            have hsz' : ks.length = ks'.length := by have : ks.length + 1 = ks'.length + 1 := hsz; omega
            by_cases hj : j < ks.length
            · have := hall (j + 1) (by show j + 1 < min (ks.length + 1) (ks'.length + 1); omega)
              exact of_decide_eq_true this
            · rw [List.getElem?_eq_none (by omega), List.getElem?_eq_none (by omega)]
          rw [e0, e1]
      · intro e
        subst e
        refine ⟨fun j _ => ?_, rfl⟩
        cases j with
        | zero => exact beq_self_eq_true _
        | succ j => exact decide_eq_true rfl
    rw [key] at R
    exact R
  · cases j with
    | zero =>
      show SeqAt.EqAt A.in1 s (Value.str op t1) (Value.str u.op t2) (op == u.op)
      exact (eqGives_str op u.op t1 t2).at _ _
    | succ j =>
      have h1' : j < vs.length := by simp at h1; omega
      have h2' : j < ws.length := by simp at h2; omega
      obtain ⟨k1, hk1, i1⟩ := r1.get (List.getElem?_eq_getElem h1')
      obtain ⟨k2, hk2, i2⟩ := r2.get (List.getElem?_eq_getElem h2')
      have hk1' : ks[j]? = some k1 := hk1
      show SeqAt.EqAt A.in1 s vs[j] ws[j] (decide (ks[j]? = u.kids[j]?))
      rw [hk1', hk2]
      have e : decide (some k1 = some k2) = decide (k1 = k2) := by simp
      rw [e]
      have hmem : k1 ∈ ks := List.mem_of_getElem? hk1'
      have hh := ht_le_of_mem hmem
      rw [ht] at hu
      exact tree_eqAt k1 k2 i1 i2 (by rw [Around.in1_units]; omega)

theorem last_idx (t : Tree) : ((((idx (putT [] t) t : Nat) : Int) == ((putT [] t).length : Nat) - 1)) = true := by
  have key : idx (putT [] t) t + 1 = (putT [] t).length := by
    cases t with
    | node op ks =>
      have hn : Tree.node op ks ∉ putL [] ks := fun hm => by
        rcases (mem_putL ks [] _).mp hm with h | h
        · cases h
        · obtain ⟨k, hk, hs⟩ := mem_subsL.mp h
          have h1 := subs_trans k hs
          have h2 := subs_le_of_mem hk
          have h3 := subs_kids (.node op ks)
          have h4 : (Tree.node op ks).kids = ks := rfl
          rw [h4] at h3
          omega
      rw [putT]
      unfold onceTStep
      rw [if_neg hn, idx_new hn]
      simp
  rw [beq_iff_eq]; omega

/-- the frames around -/
def Fms (h0 h : Heap) (outer : List Env) : Prop := ∀ e ∈ outer, e.scope.kind ≠ .module ∧ ∃ L m, e.frame = some L ∧ h.Ns L m ∧ h0.get? L = none
theorem Fms.fun_ {h0 h : Heap} : ∀ {outer : List Env}, Fms h0 h outer → h.FunFrames h0 outer
  | [], _ => trivial
  | e :: _, x => by
    obtain ⟨hk, L, m, hf, hn, h0n⟩ := x e List.mem_cons_self
    exact Heap.FunFrames.cons hk hf hn h0n (Fms.fun_ fun e' he' => x e' (List.mem_cons_of_mem _ he'))

section
variable {prog : Program} {w : World} {A : Around} {s : Shared} {h : Heap} {tk : Nat} {K : Frag} {h0 : Heap}
/-- a call wherever an exception may be in hand -/
theorem enter0 {f : Addr} {R : Result → Shared → Prop} {name qual : Str} {params : Arguments} {body : List Stmt} {scope : Scope} {dV kV doc pm cdv ct oc : Value} {an od : Option Addr} {osl : Array (Option Value)} {vals : List Value}
    {binds : List (Str × Value)} (r : A.depth < recursionLimit) (B : Bs K h0 h)
    (ho : K.lookup f = some ⟨oc, od, .func (fnOf name qual params body scope dV kV doc pm an cdv ct), osl⟩) (hcd : codeIn K cdv qual = true)
    (hbind : bindArgs (fnOf name qual params body scope dV kV doc pm an cdv ct) ⟨vals, []⟩ = pure binds)
    (hkind : (binds.all fun y => scope.names.lookup y.1 == some .local || scope.names.lookup y.1 == some .cell) = true)
    (hbody : ∀ L h₁ tk₁, Bs K h0 h₁ → Kx Non h h₁ → h₁.Ns L (bindL (fenv qual scope L f cdv).kindOf binds fun _ => none) →
      wpAny (model prog w) (A.deeper (fenv qual scope L f cdv)) (execs body (fenv qual scope L f cdv)) (fun fl s' => R (.ok (.ret (match fl with | .ret v => v | _ => .none))) s') NE (Sh s h₁ tk₁))
    (hco : scope.isCoroutine = false := by rfl) (hgen : scope.isGenerator = false := by rfl) (hk : scope.kind = .function := by rfl) :
    codeAny (model prog w) A (.call (.ref f) ⟨vals, []⟩) R (Sh s h tk) := by
  refine codeAny_call_cells (fd := fnOf name qual params body scope dV kV doc pm an cdv ct) r (B.inK _ _ ho) rfl B.nolim (codeRec_of B.inK hcd) rfl hbind rfl (kindsX hkind _) (fun s₁ I => ?_) hco hgen hk
  obtain ⟨h₁, tk₁, rfl, hk₁⟩ := I.done
  have k : Kx Non h h₁ := .ofAll hk₁
  exact ne_any (hbody _ h₁ tk₁ (B.non k) k I.toInCall.ns)
end

section
variable {w : World} {A : Around} {s : Shared} {h : Heap} {tk : Nat} {h0 : Heap} {R : Result → Shared → Prop} {E : Value → Shared → Prop} {env : Env}

theorem fi_put (w : World) : findIn (kf w.params) (.ref 198) (Str.ofString "put") = some (some (.ref 136)) := by k_is
theorem ty_put (w : World) : typeIn (kf w.params) (.ref 136) = some (.type "function") := by k_is
theorem ke_put (w : World) : keepIn (kf w.params) (.ref 136) = true := by k_is
theorem no_put : NoOwn (Str.ofString "put") := fun _ _ _ _ _ _ _ _ _ _ _ _ _ => rfl
theorem fi_term (w : World) : findIn (kf w.params) (.ref 198) (Str.ofString "term") = some (some (.ref 174)) := by k_is
theorem ty_term (w : World) : typeIn (kf w.params) (.ref 174) = some (.type "function") := by k_is
theorem ke_term (w : World) : keepIn (kf w.params) (.ref 174) = true := by k_is
theorem no_term : NoOwn (Str.ofString "term") := fun _ _ _ _ _ _ _ _ _ _ _ _ _ => rfl
theorem g_diff : nsIn (kf w.params) mainGlobals "_law_different" = some (some (.ref 261)) := by k_is
theorem k_diff : keepIn (kf w.params) (.ref 261) = true := by k_is
theorem g_bank : nsIn (kf w.params) mainGlobals "Bank" = some (some (.ref 198)) := by k_is
theorem k_bank : keepIn (kf w.params) (.ref 198) = true := by k_is
theorem g_word : nsIn (kf w.params) mainGlobals "_law_is_word" = some (some (.ref 235)) := by k_is
theorem k_word : keepIn (kf w.params) (.ref 235) = true := by k_is

/-- len(self.nodes) of an empty bank, in a handler -/
theorem size0_spec {b dx an am aw ad : Addr} (r : A.depth < recursionLimit) (B : Bs (kf w.params) h0 h) (K : Bank w h0 h b dx an am aw ad [])
    (hR : ∀ h' tk' t, Kx Non h h' → R (.ok (.ret (.int 0 t))) (Sh s h' tk')) :
    codeAny (model prg w) A (.call (.ref 117) ⟨[.ref b], []⟩) R (Sh s h tk) := by
  refine enter0 r B (by k_is) (by k_is) (binds := [(Str.ofString "self", .ref b)]) rfl (by rfl) (fun L h₁ tk₁ B₁ k₁ ns => ?_)
  obtain ⟨nv, ln, pn, _⟩ := K.nodes
  have hl : nv.length = 0 := (Paired.length pn).symm
  refine x_ret (e_len B₁ (e_attr (nm_L ns (v := .ref b) rfl (get_nodes B₁ (K.non k₁).bk fun tk2 => len_ls (ln.kx k₁ fun h => h) (by omega) fun t3 tk3 => ?_))))
  rw [hl]
  exact hR h₁ tk3 t3 k₁

theorem bank_right {t : Tree} {v : Value} {rv : Addr} {rvs : List Value} (r : Rm (ht t + 7) A) (B : Bs (kf w.params) h0 h) (hT : IsT h t v) (lr : Ls h rv rvs) (hr : RowsV h (subs t) rvs)
    (hsz : (subs t).length ≤ 60) (hht : ht t ≤ 50) (hops : ∀ u ∈ subs t, u.op.cps.size ≤ 1000) (hrel : ∀ u ∈ subs t, okOp u.op = !badW u.op) {outer : List Env} (hfr : A.frames = some outer) (hfm : Fms h0 h outer)
    (hR : ∀ d h' tk', (∀ b o, h.get? b = some o → b ∉ outer.filterMap (·.frame) → h'.get? b = some o) → h.UpToSlots h' → R (.ok (.ret (.bool true))) (Sh { s with drawn := d } h' tk')) :
    codeAny (model prg w) A (.call (.ref 266) ⟨[v, .ref rv], []⟩) R (Sh s h tk) := by
  refine enter r B (by k_is) (by k_is) (binds := [(Str.ofString "t", v), (Str.ofString "rows", .ref rv)]) rfl (by rfl) (fun L h₁ tk₁ hL r₁ B₁ k₁ hm F => ?_)
  refine x_swap (s := s) (names := [Str.ofString "bank", Str.ofString "bad"]) r₁.h ?_
  refine e_tuple (s := s) (ar_cons (Call_ (nm_K B₁ g_bank (cw_K0 k_bank B₁ (wpAny_call ?_)))))
  refine make_bank (n := ht t + 4) r₁ B₁ fun h₂ tk₂ b dx an am aw ad K₂ hnew k₂ => ?_
  have B₂ := k₂.bs B₁
  have rr2 : RowsV h₂ (subs t) rvs := (hr.kx k₁).kx k₂
  have lr2 : Ls h₂ rv rvs := (lr.kx k₁ fun h => h).kx k₂ fun h => h
  have hlen : rvs.length = (subs t).length := (Paired.length hr).symm
  refine ar_cons (comp_W (s := s) (cl := []) rfl (by decide) (by decide) (nm_L (F.non k₂).ns (v := .ref rv) rfl ?_))
  refine ca_ls2 r₁.h lr2 (by omega) (fun v' hv' => ?_) Non (fun b hb => hb.elim) (fun i ys h' => Bs (kf w.params) h0 h' ∧ RowsV h' (subs t) rvs ∧ StrVals (badsOf ((subs t).take i)) ys)
    ⟨B₂, rr2, .nil⟩ (fun i ys h' h'' ⟨q1, q2, q3⟩ k => ⟨q1.kx k fun b hb => B₂.off_new hb.1, q2.kx k, q3⟩) (by decide) (fun i b ys h' hb ⟨q1, q2, q3⟩ => ?_) (fun i b p1 v1 ys h3 tk3 m3 hb tb ⟨q1, q2, q3⟩ n3 e1 e2 => ?_) (fun ys h3 tk3 D3 hD3 ⟨q1, q2, q3⟩ l3 k3 => ?_)
  · obtain ⟨_, _, b', _, _, e, _⟩ := Paired.get' rr2 (List.mem_iff_getElem?.mp hv' |>.choose_spec)
    exact ⟨b', e⟩
  · obtain ⟨u', _, b'', _, _, e, tb'⟩ := Paired.get' q2 hb
    cases e
    exact ⟨_, _, tb'⟩
  · obtain ⟨u, hu, b'', to, tm, e, tb''⟩ := Paired.get' q2 hb
    cases e
    have := tb.inj tb''
    cases this
    have hmem : u ∈ subs t := List.mem_of_getElem? hu
    have ho := hops u hmem
    have htake : (subs t).take (i + 1) = (subs t).take i ++ [u] := by rw [List.take_add_one, hu]; rfl
    refine wpAny_tests_one (wpAny_isTrue_BoolOp (wpAny_allTrue_Or_cons (wpAny_isTrue_Not (wpAny_isTrue_value (Call_ (nm_K q1 g_word (cw_K (K := kf w.params) (h0 := h0) k_word (ar_cons (nm_L n3 e1 (ar_nil ⟨q1, wpAny_call ?_⟩)))))))))) 
    refine isword_spec (n := ht t) (r₁.le (by omega)) q1 (by omega) fun h4 tk4 k4 => wpAny_truthy_bool ?_
    have yes : badW u.op = true → ∀ h5 tk5, Kx Non h3 h5 → ∃ h' tk', Sh s h5 tk5 = Sh s h' tk' ∧ Kx Non h3 h' ∧ Bs (kf w.params) h0 h' ∧ RowsV h' (subs t) rvs ∧ StrVals (badsOf ((subs t).take (i + 1))) (ys ++ [.str u.op to]) := fun hb h5 tk5 k5 =>
      ⟨h5, tk5, rfl, k5, k5.bs q1, q2.kx k5, by rw [htake, badsOf_snoc, if_pos hb]; exact Paired.app q3 (.cons ⟨to, rfl⟩ .nil)⟩
    cases hwd : isWord u.op with
    | false =>
      simp only [Bool.not_false, if_true]
      refine nm_L (Ns.kx n3 k4 fun h => h) e1 (yes (by unfold badW; rw [hwd]; rfl) h4 tk4 k4)
    | true =>
      simp only [Bool.not_true, Bool.false_eq_true, if_false]
      refine wpAny_allTrue_Or_cons (wpAny_isTrue_Compare1 (Subscript_ (nm_L (Ns.kx n3 k4 fun h => h) e1 (e_int fun t5 tk5 => sub_st (isWord_pos hwd) fun t6 tk6 => e_str fun t7 tk7 => eq_str (wpAny_truthy_bool ?_)))))
      have hbw : badW u.op = (headS u.op == qm) := by unfold badW; rw [hwd]; rfl
      show if (headS u.op == qm) = true then _ else _
      cases hq : headS u.op == qm with
      | true =>
        simp only [if_true]
        refine nm_L (Ns.kx n3 k4 fun h => h) e1 (yes (hbw.trans hq) h4 tk7 k4)
      | false =>
        simp only [Bool.false_eq_true, if_false]
        refine wpAny_allTrue_Or_nil ?_
        simp only [Bool.false_eq_true, if_false]
        refine ⟨h4, tk7, rfl, k4, k4.bs q1, q2.kx k4, ?_⟩
        rw [htake, badsOf_snoc, hbw, hq]
        simpa using q3
  · rw [hlen, List.take_length] at q3
    refine ar_nil ⟨h3, tk3, rfl, by simp, fun h₄ t4 k₄ => ?_⟩
    refine ⟨_, _, h₄, tk3, rfl, rfl, t4, rfl, fun h₅ k₅ => ?_⟩
    have F5 := (((F.non k₂).non k3).non k₄).non k₅
    refine in_order (bindName_ (st_L F5 fun h₆ tk₆ F6 k₆ => in_order (bindName_ (st_L F6 fun h₇ tk₇ F7 k₇ => in_order0 ?_))))
    have hL1 : ∀ c, F.own c → h.get? c = none := fun c hc => get_none_of_ge (hm c hc).1
    have kk5 : Kx Non h h₅ := ((((k₁.trans k₂).trans k3).trans k₄).trans k₅)
    have kk7 : Kx Non h h₇ := (kk5.more k₆ fun c hc => hL1 c (.inl hc)).more k₇ fun c hc => hL1 c (.inl hc)
    have B₇ := kk7.bs B
    have nb : ∀ c ∈ [b, dx, an, am, aw, ad], ¬ F.own c := fun c hc ho => by
      obtain ⟨o, q⟩ := F.live ho
      rw [hnew c hc] at q; cases q
    have K₇ : Bank w h0 h₇ b dx an am aw ad [] := ((K₂.non ((k3.trans k₄).trans k₅)).kx k₆ (fun c hc q => nb c hc (.inl q))).kx k₇ (fun c hc q => nb c hc (.inl q))
    have hDown : ¬ F.own D3 := fun ho => by
      obtain ⟨o, q⟩ := F.live ho
      rw [k₂.gone hD3] at q; cases q
    have l7 : Ls h₇ D3 ys := ((l3.kx (k₄.trans k₅) fun h => h).kx k₆ (fun q => hDown (.inl q))).kx k₇ (fun q => hDown (.inl q))
    have T7 := hT.kx kk7
    have hyb : ys.isEmpty = (badsOf (subs t)).isEmpty := by
      have := Paired.length q3
      cases h1 : ys <;> cases h2 : badsOf (subs t) <;> simp_all
    refine wpAny_execs_cons (wpAny_Try_except (x_set ?_))
    refine e_meth (s := s) (fi_put w) (ty_put w) no_put (ke_put w) (nm_L F7.ns (v := .ref b) (if_pos rfl) ⟨b, dx, an, am, aw, ad, h₇, tk₇, rfl, rfl, K₇.bk, B₇, ar_cons (nm_L F7.ns (v := v) rfl (ar_nil ⟨B₇, wpAny_call ?_⟩))⟩)
    by_cases hbad : ∃ u ∈ subs t, okOp u.op = false
    · obtain ⟨nm, q, N, bs, sn, sub, ab, col, dd, q0, q1', q2', q3', q5', hC⟩ := tf_cls (w := w)
      have hff : h₇.FunFrames h0 (F.env :: outer) := Heap.FunFrames.cons (by show ScopeKind.function ≠ ScopeKind.module; decide) rfl F7.ns (B.off_ge (hL1 L (.inl rfl))) (hfm.fun_.of_keeps fun b o hb _ => ⟨o, kk7.all b o hb, rfl⟩)
      have bn : ∀ c ∈ (F.env :: outer).filterMap (·.frame), h0.get? c = none := fun c hc => (hff.mem hc).1
      have hin : ∀ c ∈ (F.env :: outer).filterMap (·.frame), c = L ∨ (c ∈ outer.filterMap (·.frame) ∧ ∃ m, h.Ns c m) := fun c hc => by
        obtain ⟨env, he, hf⟩ := List.mem_filterMap.mp hc
        rcases List.mem_cons.mp he with rfl | he
        · exact .inl (Option.some.inj hf).symm
        · obtain ⟨_, L', m', hf', hn', _⟩ := hfm env he
          rw [hf] at hf'; cases hf'
          exact .inr ⟨List.mem_filterMap.mpr ⟨env, he, hf⟩, m', hn'⟩
      refine put_bad (base := hideAll h₇ ((F.env :: outer).filterMap (·.frame))) (outer := F.env :: outer) (r₁.le (by omega)) B₇ K₇ T7 (by omega) hht hops hbad (Around.frames_deeper hfr)
        (funFrames_hide hff fun env he a hf => List.mem_filterMap.mpr ⟨env, he, hf⟩) (fun b o q => of_hideAll _ q) fun h₈ tk₈ e a0 fl up => ?_
      refine wpAny_looks_onW (s := Sh s h₈ tk₈) (Around.frames_deeper hfr) rfl fl fun h₉ held up9 => ?_
      refine wpAny_landsW (s := Sh s h₉ tk₈) held fun h10 fl10 up10 => ?_
      have stB : ∀ {h' : Heap}, (hideAll h₇ ((F.env :: outer).filterMap (·.frame))).StaysIn h' → Bs (kf w.params) h0 h' := fun st => ⟨B.K, B.g, B.lim, fun b o q => st b o (hideAll_get _ (B₇.keep b o q) fun hm => by rw [bn b hm] at q; cases q)⟩
      have B10 := stB fl10.1
      obtain ⟨ob, hob, hobc⟩ := fl10.there
      refine wpAny_handleBy_cons (codeAny_handlers_test (nm_K (s := s) B10 g_tf ?_)) (by intro q; cases q)
      refine wpAny_excMatches_sub_self (B10.inK _ _ hC) hob hobc (by decide) (codeAny_handlers_suite ?_)
      refine lands_againW (s := Sh s h10 tk₈) fl10 fun h11 fl11 up11 => ?_
      have B11 := stB fl11.1
      have upA : h₇.UpToSlots h11 := ((up.trans up9).trans up10).trans up11
      have ns11 := upA.ns F7.ns
      have kA : Kx (fun c => c ∈ (F.env :: outer).filterMap (·.frame)) h₇ h11 := Kx.but (fun b o nb q => fl11.1 b o (hideAll_get _ q nb)) fun c vs hc => by
        rcases hin c hc with rfl | ⟨_, m', hn'⟩
        · exact not_tp_of_ns F7.ns vs
        · exact not_tp_of_ns (Ns.kx hn' kk7 fun h => h) vs
      have K11 : Bank w h0 h11 b dx an am aw ad [] := K₇.kx kA fun c hc hm => by
        rcases hin c hm with rfl | ⟨_, m', hn'⟩
        · exact nb c hc (.inl rfl)
        · obtain ⟨o, _, _, ho, _⟩ := hn'
          have := k₁.all _ _ ho
          rw [hnew c hc] at this; cases this
      have l11 : Ls h11 D3 ys := l7.kx kA fun hm => by
        rcases hin _ hm with e | ⟨_, m', hn'⟩
        · exact hDown (.inl e)
        · obtain ⟨o, _, _, ho, _⟩ := hn'
          have := (k₁.trans k₂).all _ _ ho
          rw [hD3] at this; cases this
      have hyn : ys.isEmpty = false := by
        rw [hyb]
        obtain ⟨u, hu, hf⟩ := hbad
        have h1 := hrel u hu
        rw [hf] at h1
        have h2 : badW u.op = true := by simpa using h1.symm
        have h3 : u.op ∈ badsOf (subs t) := List.mem_map.mpr ⟨u, List.mem_filter.mpr ⟨hu, h2⟩, rfl⟩
        cases hb : badsOf (subs t) with
        | nil => rw [hb] at h3; cases h3
        | cons _ _ => rfl
      refine x_ret (BoolOp_and (wpAny_Compare1 (nm_L (s := s) ns11 (v := .ref D3) ((if_neg (by decide)).trans (if_pos rfl)) (e_nil (s := s) fun h12 l12 k12 => ne_ls_nil r₁.units (l11.kx k12 fun h => h) l12 (wpAny_truthy_bool ?_)))))
      rw [hyn]
      simp only [Bool.not_false, if_true]
      have K12 := K11.non k12
      have B12 := k12.bs B11
      refine BoolOp_one (wpAny_Compare1 (e_meth0 (s := s) (fi_size w) (ty_size w) no_size (ke_size w) (nm_L (Ns.kx ns11 k12 fun h => h) (v := .ref b) (if_pos rfl) ⟨b, dx, an, am, aw, ad, h12, _, rfl, rfl, K12.bk, B12, wpAny_call ?_⟩)))
      refine size0_spec r₁.room B12 K12 fun h13 tk13 t13 k13 => e_int fun t14 tk14 => eq_int ?_
      refine hR s.drawn h13 _ (fun c o ho hn => ?_) ?_
      · have h1 := kk7.all c o ho
        refine k13.all _ _ (k12.all _ _ (kA.k c o (fun hm => ?_) h1))
        rcases hin c hm with e | ⟨h2, _⟩
        · have h3 := hL1 L (.inl rfl)
          rw [← e, ho] at h3; cases h3
        · exact hn h2
      · exact ((Heap.UpToSlots.of_keeps kk7.all).trans upA).trans (Heap.UpToSlots.of_keeps (k12.trans k13).all)
    · have hok : OkOps t := fun u hu => ⟨by
        cases q : okOp u.op with
        | true => rfl
        | false => exact absurd ⟨u, hu, q⟩ hbad, hops u hu⟩
      have hbe : badsOf (subs t) = [] := by
        unfold badsOf
        rw [List.map_eq_nil_iff, List.filter_eq_nil_iff]
        intro u hu
        have h1 := hrel u hu
        rw [(hok u hu).1] at h1
        simpa using h1.symm
      refine put_ok (r₁.le (by omega)) B₇ K₇ T7 (by simp only [List.length_nil]; omega) hht hok fun h₈ tk₈ un K₈ k₈ => ?_
      have nM : ∀ c, Mut an am aw ad c → ¬ F.own c := fun c hc => by
        rcases hc with rfl | rfl | rfl | rfl <;> exact nb _ (by simp)
      refine st_L (F7.kx k₈ nM) fun h₉ tk₉ F9 k₉ => ?_
      refine wpAny_execs_nil (wpAny_execs_nil (x_ret ?_))
      have hM : ∀ c ∈ [b, dx, an, am, aw, ad], h.get? c = none := fun c hc => k₁.gone (hnew c hc)
      have kk9 : Kx Non h h₉ := (kk7.more k₈ fun c hc => by rcases hc with rfl | rfl | rfl | rfl <;> exact hM _ (by simp)).more k₉ fun c hc => hL1 c (.inl hc)
      have B₉ := kk9.bs B
      have K₉ := K₈.kx k₉ (fun c hc q => nb c hc (.inl q))
      have dM : ¬ Mut an am aw ad D3 := fun q => by
        obtain ⟨nv, ⟨_, x1⟩, _, ⟨es, nn, ps, x2, _⟩⟩ := K₂.nodes
        obtain ⟨wv, ⟨_, x3⟩, _⟩ := K₂.weights
        obtain ⟨dv, ⟨_, x4⟩, _⟩ := K₂.depths
        rcases q with q | q | q | q <;> rw [q] at hD3 <;> first | (rw [x1] at hD3; cases hD3) | (rw [x2] at hD3; cases hD3) | (rw [x3] at hD3; cases hD3) | (rw [x4] at hD3; cases hD3)
      have l9 : Ls h₉ D3 ys := (l7.kx k₈ dM).kx k₉ (fun q => hDown (.inl q))
      have hye : ys.isEmpty = true := by rw [hyb, hbe]; rfl
      refine BoolOp_and (wpAny_Compare1 (nm_L F9.ns (v := .ref D3) ((if_neg (by decide)).trans ((if_neg (by decide)).trans (if_pos rfl))) (e_nil (s := s) fun h10 l10 k10 => eq_ls_nil r₁.units (l9.kx k10 fun h => h) l10 (wpAny_truthy_bool ?_))))
      rw [hye]
      simp only [if_true]
      have F10 := F9.non k10
      have B10 := k10.bs B₉
      have K10 := K₉.non k10
      have htl : (putT [] t).length ≤ 60 := by
        have := putT_len t []
        simp only [List.length_nil] at this
        omega
      refine BoolOp_and (wpAny_Compare1 (e_meth0 (s := s) (fi_size w) (ty_size w) no_size (ke_size w) (nm_L F10.ns (v := .ref b) ((if_neg (by decide)).trans (if_pos rfl)) ⟨b, dx, an, am, aw, ad, h10, _, rfl, rfl, K10.bk, B10, wpAny_call ?_⟩)))
      refine size_spec (n := ht t) (r₁.le (by omega)) B10 K10 (by omega) fun h11 tk11 t11 k11 => ?_
      have B11 := k11.bs B10
      have F11 := F10.non k11
      have kk11 : Kx Non h h11 := (kk9.trans k10).trans k11
      refine Call_ (nm_K B11 g_diff (cw_K (K := kf w.params) (h0 := h0) k_diff (ar_cons (nm_L F11.ns (v := v) ((if_neg (by decide)).trans ((if_neg (by decide)).trans ((if_neg (by decide)).trans rfl))) (ar_nil ⟨B11, wpAny_call ?_⟩)))))
      refine different_spec (n := ht t) (r₁.le (by omega)) B11 (hT.kx kk11) (by omega) (by omega) fun h12 tk12 t12 k12 => eq_int (wpAny_truthy_bool ?_)
      have hcount : (putT [] t).length = (onceT (subs t)).length := nodup_len_eq K₈.ok.nd (onceT_nodup _) fun x => by rw [mem_onceT, mem_putT]; simp
      rw [hcount, beq_self_eq_true]
      simp only [if_true]
      have F12 := F11.non k12
      have B12 := k12.bs B11
      have K12 := (K10.non k11).non k12
      have kk12 := kk11.trans k12
      have htm : t ∈ putT [] t := (mem_putT t [] t).mpr (.inr (by cases t; rw [subs]; exact List.mem_cons_self))
      refine BoolOp_and (wpAny_Compare1 (e_meth (s := s) (fi_term w) (ty_term w) no_term (ke_term w) (nm_L F12.ns (v := .ref b) ((if_neg (by decide)).trans (if_pos rfl)) ⟨b, dx, an, am, aw, ad, h12, _, rfl, rfl, K12.bk, B12, ar_cons (nm_L F12.ns (v := .int (idx (putT [] t) t : Nat) un) (if_pos rfl) (ar_nil ⟨B12, wpAny_call ?_⟩))⟩)))
      refine term_spec (n := ht t) (r₁.le (by omega)) B12 K12 (by omega) htm (fun u hu => by
        have h1 := kids_le ((mem_putT t [] u).mp hu |>.resolve_left (by simp))
        omega) fun h13 tk13 v13 iv13 k13 => ?_
      have F13 := F12.non k13
      have kk13 := kk12.trans k13
      refine nm_L F13.ns (v := v) ((if_neg (by decide)).trans ((if_neg (by decide)).trans ((if_neg (by decide)).trans rfl))) ?_
      refine tree_rcAt (s := Sh s h13 tk13) t t iv13 (hT.kx kk13) (by have := r₁.u; omega) prg w _ _ (wpAny_truthy_bool ?_)
      rw [decide_eq_true rfl]
      simp only [if_true]
      have B13 := k13.bs B12
      have K13 := K12.non k13
      refine BoolOp_one (wpAny_Compare1 (nm_L F13.ns (v := .int (idx (putT [] t) t : Nat) un) (if_pos rfl) (wpAny_BinOp (e_meth0 (s := s) (fi_size w) (ty_size w) no_size (ke_size w) (nm_L F13.ns (v := .ref b) ((if_neg (by decide)).trans (if_pos rfl)) ⟨b, dx, an, am, aw, ad, h13, _, rfl, rfl, K13.bk, B13, wpAny_call ?_⟩)))))
      refine size_spec (n := ht t) (r₁.le (by omega)) B13 K13 (by omega) fun h14 tk14 t14 k14 => e_int fun t15 tk15 => sub_int (eq_int ?_)
      rw [last_idx t]
      exact hR s.drawn h14 _ (fun b' o' hb _ => (kk13.trans k14).all b' o' hb) (Heap.UpToSlots.of_keeps (kk13.trans k14).all)
end
end Mine

namespace Mine

/-! plain facts for the law -/
def sgn : Str := Str.ofString "az?-0 \t\n()[]{},:"
def GoodC (c : Nat) : Prop := opBad c = isBarred c
theorem filter_isEmpty {α : Type} (p : α → Bool) : ∀ l : List α, (l.filter p).isEmpty = l.all fun x => !p x
  | [] => rfl
  | a :: l => by
    rw [List.filter_cons, List.all_cons]
    cases h : p a
    · simp only [Bool.false_eq_true, if_false, Bool.not_false, Bool.true_and]; exact filter_isEmpty p l
    · rfl
theorem word_op {x : Str} (h : ∀ c ∈ x.cps.toList, GoodC c) : isOp x = isWord x := by
  unfold isOp isWord
  rw [filter_isEmpty, Bool.and_comm]
  congr 1
  rw [Bool.eq_iff_iff, List.all_eq_true, List.all_eq_true]
  exact ⟨fun a c hc => by rw [← h c hc]; exact a c hc, fun a c hc => by rw [show opBad c = isBarred c from h c hc]; exact a c hc⟩
theorem sgn_good : ∀ c ∈ sgn.cps.toList, GoodC c := by
  have : sgn.cps.toList.all (fun c => opBad c == isBarred c) = true := by decide +kernel
  intro c hc
  exact beq_iff_eq.mp (List.all_eq_true.mp this c hc)
theorem ops_good : ∀ o ∈ opsL, ∀ c ∈ o.cps.toList, GoodC c := by
  have : opsL.all (fun o => o.cps.toList.all (fun c => opBad c == isBarred c)) = true := by decide +kernel
  intro o ho c hc
  exact beq_iff_eq.mp (List.all_eq_true.mp (List.all_eq_true.mp this o ho) c hc)
theorem ops_size : ∀ o ∈ opsL, o.cps.size ≤ 3 := by
  have : opsL.all (fun o => decide (o.cps.size ≤ 3)) = true := by decide +kernel
  intro o ho
  exact of_decide_eq_true (List.all_eq_true.mp this o ho)

mutual
theorem subs_rename (f : Str → Str) : ∀ t : Tree, subs (rename f t) = (subs t).map (rename f)
  | .node op ks => by rw [rename, subs, subs, List.map_cons, rename, subsL_rename f ks]
theorem subsL_rename (f : Str → Str) : ∀ ts : List Tree, subsL (renameL f ts) = (subsL ts).map (rename f)
  | [] => by rw [renameL, subsL]; rfl
  | t :: ts => by rw [renameL, subsL, subsL, subs_rename f t, subsL_rename f ts, List.map_append]
end
mutual
theorem ht_rename (f : Str → Str) : ∀ t : Tree, ht (rename f t) = ht t
  | .node op ks => by rw [rename, ht, ht, htL_rename f ks]
theorem htL_rename (f : Str → Str) : ∀ ts : List Tree, htL (renameL f ts) = htL ts
  | [] => by rw [renameL]
  | t :: ts => by rw [renameL, htL, htL, ht_rename f t, htL_rename f ts]
end
theorem rename_op (f : Str → Str) (t : Tree) : (rename f t).op = f t.op := by cases t; rw [rename]; rfl
theorem rename_kids (f : Str → Str) (t : Tree) : (rename f t).kids.length = t.kids.length := by
  cases t; rw [rename]; show (renameL f _).length = _; rw [renameL_map]; simp [Tree.kids]
mutual
theorem rename_back {f g : Str → Str} : ∀ t : Tree, (∀ u ∈ subs t, g (f u.op) = u.op) → rename g (rename f t) = t
  | .node op ks, h => by
    rw [rename, rename]
    have h1 := h (.node op ks) (by rw [subs]; exact List.mem_cons_self)
    have h1' : g (f op) = op := h1
    rw [h1', renameL_back ks fun u hu => h u (by rw [subs]; exact List.mem_cons_of_mem _ hu)]
theorem renameL_back {f g : Str → Str} : ∀ ts : List Tree, (∀ u ∈ subsL ts, g (f u.op) = u.op) → renameL g (renameL f ts) = ts
  | [], _ => by rw [renameL, renameL]
  | t :: ts, h => by
    rw [renameL, renameL, rename_back t fun u hu => h u (by rw [subsL]; exact List.mem_append_left _ hu), renameL_back ts fun u hu => h u (by rw [subsL]; exact List.mem_append_right _ hu)]
end

/-- the texts 'n0', 'n1', .. -/
def nm (j : Nat) : Str := Str.ofString "n" ++ (toString (j : Int) : String)
theorem nm_start : ∀ j < 20, startsQ (nm j) = false := by
  have : (List.range 20).all (fun j => !startsQ (nm j)) = true := by decide +kernel
  intro j hj
  have := List.all_eq_true.mp this j (List.mem_range.mpr hj)
  simpa using this
theorem nm_size : ∀ j < 20, (nm j).cps.size ≤ 5 := by
  have : (List.range 20).all (fun j => decide ((nm j).cps.size ≤ 5)) = true := by decide +kernel
  intro j hj
  exact of_decide_eq_true (List.all_eq_true.mp this j (List.mem_range.mpr hj))
theorem nm_inj : ∀ j < 20, ∀ k < 20, nm j = nm k → j = k := by
  have : (List.range 20).all (fun j => (List.range 20).all fun k => (nm j != nm k) || decide (j = k)) = true := by decide +kernel
  intro j hj k hk e
  have h1 := List.all_eq_true.mp (List.all_eq_true.mp this j (List.mem_range.mpr hj)) k (List.mem_range.mpr hk)
  rw [e] at h1
  simpa using h1

theorem valueAt_at {kvs : List (Str × Value)} (hn : (kvs.map (·.1)).Nodup) {j : Nat} {k : Str} {v : Value} (e : kvs[j]? = some (k, v)) : valueAt kvs k = some v := by
  unfold valueAt
  cases hf : kvs.find? (fun kv => kv.1 = k) with
  | none =>
    have := List.find?_eq_none.mp hf (k, v) (List.mem_of_getElem? e)
    simp at this
  | some p =>
    have h1 : p.1 = k := by simpa using List.find?_some hf
    obtain ⟨i, hi⟩ := List.mem_iff_getElem?.mp (List.mem_of_find?_eq_some hf)
    have a1 : (kvs.map (·.1))[i]? = some k := by rw [List.getElem?_map, hi]; show some p.1 = _; rw [h1]
    have a2 : (kvs.map (·.1))[j]? = some k := by rw [List.getElem?_map, e]; rfl
    have hil : i < (kvs.map (·.1)).length := (List.getElem?_eq_some_iff.mp a1).1
    have hij : i = j := (List.getElem?_inj hil hn).mp (a1.trans a2.symm)
    subst hij
    rw [hi] at e; cases e
    rfl

/-- the two tables, after the rows so far -/
structure Two (os : List Str) (T Bk : List (Str × Value)) : Prop where
  nd : (T.map (·.1)).Nodup
  sub : ∀ o ∈ os, o ∈ T.map (·.1)
  len : T.length ≤ os.length
  blen : Bk.length ≤ os.length
  val : ∀ (j : Nat) (p : Str × Value), T[j]? = some p → ∃ t, p.2 = .str (nm j) t
  back : ∀ (j : Nat) (p : Str × Value), T[j]? = some p → ∃ t, valueAt Bk (nm j) = some (.str p.1 t)
  kv : StrKv Bk
theorem Two.nil : Two [] [] [] := ⟨List.nodup_nil, (fun o ho => by cases ho), Nat.le_refl _, Nat.le_refl _, (fun j p e => by simp at e), (fun j p e => by simp at e), (fun p hp => by cases hp)⟩
theorem Two.at {os : List Str} {T Bk : List (Str × Value)} (x : Two os T Bk) {o : Str} (ho : o ∈ T.map (·.1)) : ∃ (j : Nat) (t : Tok), T[j]? = some (o, Value.str (nm j) t) := by
  obtain ⟨p, hp, rfl⟩ := List.mem_map.mp ho
  obtain ⟨j, hj⟩ := List.mem_iff_getElem?.mp hp
  obtain ⟨t, e⟩ := x.val j p hj
  exact ⟨j, t, by rw [hj, ← e]⟩
theorem stored_mem {K : Type} [DecidableEq K] {kvs : List (K × Value)} {k : K} {v : Value} {p : K × Value} (h : p ∈ stored kvs k v) : p ∈ kvs ∨ p.2 = v := by
  unfold stored at h
  split at h
  · obtain ⟨q, hq, e⟩ := List.mem_map.mp h
    split at e
    · exact .inr (by rw [← e])
    · exact .inl (e ▸ hq)
  · rcases List.mem_append.mp h with h | h
    · exact .inl h
    · exact .inr (by rw [List.mem_singleton.mp h])
theorem Two.old {os : List Str} {T Bk : List (Str × Value)} (x : Two os T Bk) (hl : os.length < 15) {j : Nat} {o : Str} {t' t : Tok} (e : T[j]? = some (o, Value.str (nm j) t')) (hz : o.cps.size ≤ 1000) : Two (os ++ [o]) T (stored Bk (nm j) (.str o t)) := by
  have hjl : j < 20 := by have := (List.getElem?_eq_some_iff.mp e).1; have := x.len; omega
  refine ⟨x.nd, fun y hy => ?_, by have := x.len; simp; omega, by have := x.blen; have := stored_length_le Bk (nm j) (.str o t); simp; omega, x.val, fun i p hp => ?_, fun p hp => ?_⟩
  · rcases List.mem_append.mp hy with h | h
    · exact x.sub y h
    · rw [List.mem_singleton.mp h]; exact List.mem_map.mpr ⟨_, List.mem_of_getElem? e, rfl⟩
  · have hil : i < 20 := by have := (List.getElem?_eq_some_iff.mp hp).1; have := x.len; omega
    rw [valueAt_stored]
    by_cases hij : i = j
    · subst hij
      rw [e] at hp; cases hp
      exact ⟨t, by rw [if_pos rfl]⟩
    · rw [if_neg fun q => hij (nm_inj i hil j hjl q)]
      exact x.back i p hp
  · rcases stored_mem hp with h | h
    · exact x.kv p h
    · exact ⟨o, t, h, hz⟩
theorem Two.new {os : List Str} {T Bk : List (Str × Value)} (x : Two os T Bk) (hl : os.length < 15) {o : Str} {t' t : Tok} (hn : o ∉ T.map (·.1)) (hz : o.cps.size ≤ 1000) :
    Two (os ++ [o]) (T ++ [(o, Value.str (nm T.length) t')]) (stored Bk (nm T.length) (.str o t)) := by
  have hTl : T.length < 20 := by have := x.len; omega
  refine ⟨?_, fun y hy => ?_, by have := x.len; simp; omega, by have := x.blen; have := stored_length_le Bk (nm T.length) (.str o t); simp; omega, fun j p hp => ?_, fun i p hp => ?_, fun p hp => ?_⟩
  · rw [List.map_append, List.nodup_append]
    exact ⟨x.nd, by simp, fun a ha b hb => by rw [List.map_singleton, List.mem_singleton] at hb; rw [hb]; rintro rfl; exact hn ha⟩
  · rw [List.map_append]
    rcases List.mem_append.mp hy with h | h
    · exact List.mem_append_left _ (x.sub y h)
    · rw [List.mem_singleton.mp h]; exact List.mem_append_right _ (by simp)
  · rcases Nat.lt_or_ge j T.length with h | h
    · rw [List.getElem?_append_left h] at hp; exact x.val j p hp
    · have : j = T.length := by have := (List.getElem?_eq_some_iff.mp hp).1; simp at this; omega
      subst this
      simp at hp; subst hp; exact ⟨t', rfl⟩
  · rw [valueAt_stored]
    rcases Nat.lt_or_ge i T.length with h | h
    · rw [List.getElem?_append_left h] at hp
      rw [if_neg fun q => absurd (nm_inj i (by omega) _ hTl q) (by omega)]
      exact x.back i p hp
    · have : i = T.length := by have := (List.getElem?_eq_some_iff.mp hp).1; simp at this; omega
      subst this
      simp at hp; subst hp
      exact ⟨t, by rw [if_pos rfl]⟩
  · rcases stored_mem hp with h | h
    · exact x.kv p h
    · exact ⟨o, t, h, hz⟩
theorem Two.strKv {os : List Str} {T Bk : List (Str × Value)} (x : Two os T Bk) (hl : os.length < 20) : StrKv T := fun p hp => by
  obtain ⟨j, hj⟩ := List.mem_iff_getElem?.mp hp
  obtain ⟨t, e⟩ := x.val j p hj
  have hjl : j < 20 := by have := (List.getElem?_eq_some_iff.mp hj).1; have := x.len; omega
  exact ⟨_, t, e, Nat.le_trans (nm_size j hjl) (by decide)⟩
theorem Two.lkT {os : List Str} {T Bk : List (Str × Value)} (x : Two os T Bk) (hl : os.length < 20) {o : Str} (ho : o ∈ os) : startsQ (lk T o) = false ∧ lk Bk (lk T o) = o := by
  obtain ⟨j, t, e⟩ := x.at (x.sub o ho)
  have hjl : j < 20 := by have := (List.getElem?_eq_some_iff.mp e).1; have := x.len; omega
  have h1 : lk T o = nm j := by unfold lk; rw [valueAt_at x.nd e]
  rw [h1]
  refine ⟨nm_start j hjl, ?_⟩
  obtain ⟨t2, e2⟩ := x.back j _ e
  unfold lk; rw [e2]
end Mine

namespace Mine

theorem ops_rel : ∀ o ∈ opsL, okOp o = !badW o := by
  have : opsL.all (fun o => okOp o == !badW o) = true := by decide +kernel
  intro o ho
  exact beq_iff_eq.mp (List.all_eq_true.mp this o ho)

section
variable {prog : Program} {w : World} {A : Around} {s : Shared} {h : Heap} {tk : Nat} {E : Value → Shared → Prop} {env : Env}

theorem as_T4 {e1 e2 e3 e4 : Expr} {k : Nat} {p : Pos} {a : Addr} {u1 u2 u3 u4 : Value} {Q : Unit → Shared → Prop} (hh : A.handled = none) (T : Tp h a [u1, u2, u3, u4])
    (hQ : ∀ h', Kx Non h h' → wpAny (model prog w) A (assign e1 env u1) (fun _ s₁ => wpAny (model prog w) A (assign e2 env u2) (fun _ s₂ => wpAny (model prog w) A (assign e3 env u3) (fun _ s₃ => wpAny (model prog w) A (assign e4 env u4) Q E s₃) E s₂) E s₁) E (Sh s h' tk))
    (he : assignEach [e1, e2, e3, e4] env = [(false, assign e1 env), (false, assign e2 env), (false, assign e3 env), (false, assign e4 env)] := by rfl) : wpAny (model prog w) A (assign (.Tuple [e1, e2, e3, e4] k p) env (.ref a)) Q E (Sh s h tk) := by
  refine wpAny_assign_Tuple hh T.isTuple (by rw [he]; rfl) (by rw [he]; rfl) fun h' hx => ?_
  rw [he]
  have k' : Kx Non h h' := .ofAll fun b o e => hx b o (Nat.ne_of_lt (Heap.lt_size e)) e
  refine wpAny_assignInOrder_more (wpAny_mono (hQ h' k') (fun _ s₁ x => ?_) fun _ _ z => z)
  refine wpAny_assignInOrder_more (wpAny_mono x (fun _ s₂ y => ?_) fun _ _ z => z)
  refine wpAny_assignInOrder_more (wpAny_mono y (fun _ s₃ y => ?_) fun _ _ z => z)
  exact wpAny_assignInOrder_more (wpAny_mono y (fun _ s₄ y => wpAny_assignInOrder_none y) fun _ _ z => z)

/-- x[k] of a text at a known place -/
theorem sub_sti {value slice : Expr} {x : Str} {t : Tok} {k : Nat} {u : Tok} {Q : Value → Shared → Prop} (hk : k < x.cps.size) (hz : x.cps.size ≤ 1000) (hQ : ∀ t' tk', Q (.str ⟨#[x.cps.getD k 0]⟩ t') (Sh s h tk'))
    (hs : subscripted slice false (.str x t) (.int (k : Nat) u) = operate [.str x t, .int (k : Nat) u] (getItem (.str x t) (.int (k : Nat) u)) := by with_unfolding_all rfl) :
    wpAny (model prog w) A (subscriptTail value slice (.str x t) (.int (k : Nat) u)) Q E (Sh s h tk) := by
  refine tail_any (s := Sh s h tk) (typeIs_str _ x t) PySem.F.slot_str_getitem.lookup (P.getItem_str (c := x.cps.getD k 0) ?_ ?_ (hQ _ _)) hs
  · rw [Bool.or_eq_false_iff]
    exact ⟨decide_eq_false (by omega), decide_eq_false (by omega)⟩
  · have e : seqIndex? (k : Nat) x.length = some k := by
      unfold seqIndex?
      have : ((k : Nat) : Int) < x.length := by show ((k : Nat) : Int) < (x.cps.size : Int); omega
      simp
      omega
    rw [e]
    show x.cps[k]? = _
    rw [Array.getElem?_eq_getElem hk, Array.getD_eq_getD_getElem?, Array.getElem?_eq_getElem hk]
    rfl

/-- a method of a text's, of one argument -/
theorem e_smeth1 {o e : Expr} {name : Str} {apos pos : Pos} {id : String} {Q : Value → Shared → Prop} {st : Shared} (slot : Slot "str" name id) (hty : typeOf (.builtin id) = pure (.type "method_descriptor"))
    (hh : wpAny (model prog w) A (eval o env) (fun ov s₁ => ∃ x t, ov = .str x t ∧ wpAny (model prog w) A (eval e env) (fun v s₂ => wpAny (model prog w) A (call (.builtin id) [.str x t, v]) Q E s₂) E s₁) E st)
    (hbase : attributeBase o name env (eval o env) = eval o env := by rfl) (he : starEach [e] env = [(false, eval e env)] := by rfl) (hline : (apos.endLine == pos.line) = true := by rfl) :
    wpAny (model prog w) A (eval (.Call (.Attribute o name apos) [e] [] pos) env) Q E st := by
  refine wpAny_Call_method hbase (by rw [he]; rfl) hline F.plainAttrs_str slot hty (wpAny_mono hh (fun ov s₁ ⟨x, t, e1, y⟩ => ?_) fun _ _ z => z)
  subst e1
  refine ⟨typeIs_str _ _ _, (fun a' e => by cases e), callWith_method1 (ar_cons (wpAny_mono y (fun v s₂ y => ar_nil y) fun _ _ z => z) (by rw [he]; rfl)) (by rw [he]; rfl)⟩

/-- an expression alone, whatever comes -/
theorem x_expr' {e : Expr} {pos : Pos} {rest : List Stmt} {Q : Flow → Shared → Prop} {st : Shared}
    (hh : wpAny (model prog w) A (eval e env) (fun v s' => (∀ a, v ≠ .ref a) ∧ wpAny (model prog w) A (execs rest env) Q E s') E st)
    (hi : interactive env = false := by rfl) (hs : swapsWith e none pos.line env = pure false := by rfl) : wpAny (model prog w) A (execs (.Expr e pos :: rest) env) Q E st :=
  wpAny_execs_cons (wpAny_Expr (wpAny_mono hh (fun v s' ⟨e, x⟩ => by cases v <;> first | exact x | exact absurd rfl (e _)) fun _ _ z => z) hi hs)
end

section
variable {w : World} {A : Around} {s : Shared} {h : Heap} {tk : Nat} {h0 : Heap} {R : Result → Shared → Prop} {E : Value → Shared → Prop} {env : Env}

/-- ''.join of single signs -/
def OfSigns (z : Str) (vs : List Value) : Prop := ∀ v ∈ vs, ∃ c t, c ∈ z.cps.toList ∧ v = Value.str ⟨#[c]⟩ t
theorem OfSigns.strs {z : Str} : ∀ {vs : List Value}, OfSigns z vs → ∃ ys, StrsAre vs ys ∧ ys.length = vs.length ∧ ∀ y ∈ ys, ∃ c ∈ z.cps.toList, y = ⟨#[c]⟩
  | [], _ => ⟨[], .nil, rfl, fun y hy => by cases hy⟩
  | v :: vs, x => by
    obtain ⟨c, t, hc, rfl⟩ := x v List.mem_cons_self
    obtain ⟨ys, h1, h2, h3⟩ := OfSigns.strs (vs := vs) fun u hu => x u (List.mem_cons_of_mem _ hu)
    refine ⟨⟨#[c]⟩ :: ys, .cons _ t h1, by simp [h2], fun y hy => ?_⟩
    rcases List.mem_cons.mp hy with rfl | hy
    · exact ⟨c, hc, rfl⟩
    · exact h3 y hy
theorem sum_ones {z : Str} : ∀ {ys : List Str}, (∀ y ∈ ys, ∃ c ∈ z.cps.toList, y = ⟨#[c]⟩) → (ys.map (·.length)).sum = ys.length
  | [], _ => rfl
  | y :: ys, h => by
    obtain ⟨c, _, rfl⟩ := h y List.mem_cons_self
    have := sum_ones (ys := ys) fun u hu => h u (List.mem_cons_of_mem _ hu)
    rw [List.map_cons, List.sum_cons, this]
    show 1 + ys.length = ys.length + 1
    omega
theorem join_len {z : Str} {ys : List Str} (h : ∀ y ∈ ys, ∃ c ∈ z.cps.toList, y = ⟨#[c]⟩) : (Str.join (Str.ofString "") ys).cps.size ≤ ys.length := by
  have h1 := StrLaws.join_length_le (Str.ofString "") ys
  rw [sum_ones h] at h1
  have h4 : (Str.ofString "").length = 0 := rfl
  rw [h4] at h1
  have h5 : (Str.join (Str.ofString "") ys).length = (Str.join (Str.ofString "") ys).cps.size := rfl
  omega
theorem call_join {D : Addr} {z : Str} {t : Tok} {vs : List Value} {Q : Value → Shared → Prop} (T : Ls h D vs) (hl : vs.length ≤ 1000) (hv : OfSigns z vs) (hQ : ∀ x t' tk', x.cps.size ≤ vs.length → (∀ c ∈ x.cps.toList, c ∈ z.cps.toList) → Q (.str x t') (Sh s h tk')) :
    wpAny (model prg w) A (call (.builtin "str.join") [.str (Str.ofString "") t, .ref D]) Q E (Sh s h tk) := by
  obtain ⟨ys, h1, h2, h3⟩ := hv.strs
  refine join_listW (s := Sh s h tk) T.isList (ys := ys) h1 (by decide) (by rw [sum_ones h3]; omega) fun t' k => ?_
  rw [show Txt.join (Str.ofString "") ys = Str.join (Str.ofString "") ys from StrLaws.glued_eq_join _ _]
  refine hQ _ t' k (by rw [← h2]; exact join_len h3) fun c hc => ?_
  rcases (mem_join (Str.ofString "") c ys).mp hc with ⟨y, hy, hcy⟩ | ⟨_, hc⟩
  · obtain ⟨c', hc', rfl⟩ := h3 y hy
    have : c = c' := by simpa using hcy
    rw [this]; exact hc'
  · have : (Str.ofString "").cps.toList = [] := rfl
    rw [this] at hc; cases hc

/-- two lists of rows, alike -/
theorem row_eqAt {u : Tree} {v v' : Value} (hu : A.units < cLine) (x : RowV s.heap u v) (y : RowV s.heap u v') : SeqAt.EqAt A s v v' true := by
  obtain ⟨a, to, tm, rfl, T1⟩ := x
  obtain ⟨b, to', tm', rfl, T2⟩ := y
  by_cases hab : a = b
  · subst hab; exact SeqAt.EqAt.same _
  · refine SeqAt.EqAt.of_refs hab ?_
    have R := SeqAt.RcAt.tuples (A := A) (e := fun _ => true) T1.isTuple T2.isTuple hu (fun j h1 h2 => ?_)
    · have e : ((List.range (min [Value.str u.op to, .int (u.kids.length : Nat) tm].toArray.size [Value.str u.op to', .int (u.kids.length : Nat) tm'].toArray.size)).all (fun _ => true) && [Value.str u.op to, .int (u.kids.length : Nat) tm].toArray.size == [Value.str u.op to', .int (u.kids.length : Nat) tm'].toArray.size) = true := by rfl
      rw [e] at R; exact R
    · have hj : j < 2 := by simpa using h1
      match j, hj with
      | 0, _ =>
        show SeqAt.EqAt A.in1 s (Value.str u.op to) (Value.str u.op to') true
        have := (eqGives_str u.op u.op to to').at A.in1 s
        rwa [show (u.op == u.op) = true from by simp] at this
      | 1, _ =>
        show SeqAt.EqAt A.in1 s (Value.int (u.kids.length : Nat) tm) (Value.int (u.kids.length : Nat) tm') true
        have := (MeetsSeq.EqGives.int (u.kids.length : Nat) (u.kids.length : Nat) tm tm').at A.in1 s
        rwa [show (((u.kids.length : Nat) : Int) == ((u.kids.length : Nat) : Int)) = true from by simp] at this
theorem ne_rows_same {a b : Addr} {us : List Tree} {vs ws : List Value} {Q : Value → Shared → Prop} (hu : A.units + 1 < cLine) (T : Ls s.heap a vs) (T2 : Ls s.heap b ws) (hv : RowsV s.heap us vs) (hw : RowsV s.heap us ws) (hQ : Q (.bool false) s) :
    wpAny (model prg w) A (compareOp .NotEq (.ref a) (.ref b)) Q E s := by
  have hl : vs.length = ws.length := (Paired.length hv).symm.trans (Paired.length hw)
  refine SeqAt.RcNeAt.lists (e := fun _ => true) T.isList T2.isList (by simpa using hl) (by omega) (fun j h1 h2 => ?_) prg w E Q (by rw [List.all_eq_true.mpr fun _ _ => rfl]; exact hQ)
  have e1 : vs[j]? = some vs.toArray[j] := by rw [← List.getElem?_toArray, Array.getElem?_eq_getElem h1]
  have e2 : ws[j]? = some ws.toArray[j] := by rw [← List.getElem?_toArray, Array.getElem?_eq_getElem h2]
  obtain ⟨u, hx, x⟩ := Paired.get' hv e1
  obtain ⟨u', hy, y⟩ := Paired.get' hw e2
  rw [hx] at hy; cases hy
  exact row_eqAt (A := A.in1) (by rw [Around.in1_units]; omega) x y

/-- a term against itself -/
theorem ne_tree_same {t : Tree} {v v' : Value} {Q : Value → Shared → Prop} (hu : A.units + ht t < 9700) (x : IsT s.heap t v) (y : IsT s.heap t v') (hQ : Q (.bool false) s) : wpAny (model prg w) A (compareOp .NotEq v v') Q E s := by
  obtain ⟨a, t1, vs, rfl, T1, r1⟩ := x.open
  obtain ⟨b, t2, ws, rfl, T2, r2⟩ := y.open
  have hl : vs.length = ws.length := r1.length.trans r2.length.symm
  refine SeqAt.RcNeAt.tuples (e := fun _ => true) T1.isTuple T2.isTuple (by show _ < 9900; omega) (fun j h1 h2 => ?_) prg w E Q (by rw [List.all_eq_true.mpr fun _ _ => rfl, show ((Value.str t.op t1 :: vs).toArray.size == (Value.str t.op t2 :: ws).toArray.size) = true by simp [hl]]; exact hQ)
  cases j with
  | zero =>
    show SeqAt.EqAt A.in1 s (Value.str t.op t1) (Value.str t.op t2) true
    have := (eqGives_str t.op t.op t1 t2).at A.in1 s
    rwa [show (t.op == t.op) = true from by simp] at this
  | succ j =>
    have h1' : j < vs.length := by simp at h1; omega
    have h2' : j < ws.length := by simp at h2; omega
    obtain ⟨k1, hk1, i1⟩ := r1.get (List.getElem?_eq_getElem h1')
    obtain ⟨k2, hk2, i2⟩ := r2.get (List.getElem?_eq_getElem h2')
    rw [hk1] at hk2; cases hk2
    show SeqAt.EqAt A.in1 s vs[j] ws[j] true
    have hmem : k1 ∈ t.kids := List.mem_of_getElem? hk1
    have hh := ht_le_of_mem hmem
    have hht : ht t = htL t.kids + 1 := by cases t; rw [ht]; rfl
    have := tree_eqAt k1 k1 i1 i2 (A := A.in1) (by rw [Around.in1_units]; omega)
    rwa [decide_eq_true rfl] at this

/-- xs[:k] of any list -/
theorem e_uptoI {value : Expr} {i : Int} {p1 p2 p3 : Pos} {k : Nat} {Q : Value → Shared → Prop} {st : Shared}
    (hh : wpAny (model prg w) A (eval value env) (fun v s₁ => ∃ a vs h₁ tk₁, v = .ref a ∧ s₁ = Sh s h₁ tk₁ ∧ h₁.IsList a (List.toArray vs) ∧ vs.length ≤ 99999 ∧ ∀ h' c us tk', Ls h' c us → us.length ≤ vs.length → (∀ u ∈ us, u ∈ vs) → h₁.get? c = none → Kx Non h₁ h' → Q (.ref c) (Sh s h' tk')) E st)
    (hs : ∀ (a : Addr) i', subscripted (.Slice none (some (.Constant (.int i) k p1)) none p2) false (.ref a) i' = operate [i', .ref a] (getItem (.ref a) i') := by intro _ _; with_unfolding_all rfl)
    (ht : ∀ (a : Addr) r, letTemporaryGo value (.ref a) r = pure () := by intro _ _; with_unfolding_all rfl) :
    wpAny (model prg w) A (eval (.Subscript value (.Slice none (some (.Constant (.int i) k p1)) none p2) p3) env) Q E st := by
  refine Subscript_ (wpAny_mono hh (fun v s₁ ⟨a, vs, h₁, tk₁, e1, e2, T, hsz, hQ⟩ => ?_) fun _ _ z => z)
  subst e1 e2
  refine wpAny_Slice (wpAny_evalPart_none (wpAny_evalPart_some (e_int fun t1 tk1 => wpAny_evalPart_none ?_)))
  refine slice_listK (s := Sh s h₁ tk1) T .none (.int i t1) ?_ (hs _ _) (ht _) (by rw [sizeLine_eq]; simp; omega)
  refine hQ _ _ (slicePick vs.toArray none (some i) none).toList _ ⟨0, ?_⟩ ?_ ?_ (get_none_of_ge (Nat.le_succ _)) ((Kx.push _ _).trans (Kx.push _ _))
  · have := Heap.get?_push_size (h₁.push { cls := .type "slice", data := .fields #[.none, .int i t1, .none] }) (o := { cls := .type "list", data := .seq (slicePick vs.toArray none (some i) none) }) rfl
    rw [Heap.size_push] at this
    exact this
  · rw [Array.length_toList]
    have := slicePick_size_le vs.toArray none (some i) none
    simpa using this
  · intro u hu
    unfold slicePick at hu
    rw [List.toList_toArray] at hu
    obtain ⟨j, _, hj⟩ := List.mem_filterMap.mp hu
    have := Array.mem_of_getElem? hj
    simpa using this

theorem feed_specI {a : Addr} {vs : List Value} {n : Nat} (r : Rm (n + 1) A) (B : Bs (kf w.params) h0 h) (T : h.IsList a vs.toArray) (hv : AllInt vs) (hl : vs.length ≤ 63)
    (hR : ∀ h' tk' f C, h.get? f = none → FeedAt h' f C 0 → h.get? C = none → Kx Non h h' → R (.ok (.ret (.ref f))) (Sh s h' tk')) :
    codeAny (model prg w) A (.call (.ref 221) ⟨[.ref a], []⟩) R (Sh s h tk) := by
  refine enter r B (by k_is) (by k_is) (binds := [(Str.ofString "script", .ref a)]) rfl (by rfl) (fun L h₁ tk₁ hL r₁ B₁ k₁ hm F => ?_)
  refine x_ret (e_list (s := s) (ar_cons (comp_W (s := s) (cl := []) rfl (by decide) (by decide) (e_uptoI (nm_L F.ns (v := .ref a) rfl ⟨a, vs, h₁, tk₁, rfl, rfl, (let ⟨o, ho, r⟩ := T; ⟨o, k₁.all a o ho, r⟩), by omega, fun h₂ c us tk₂ l2 hul hum hc k₂ => ?_⟩)))))
  have B₂ := k₂.bs B₁
  have hui : AllInt us := fun v hv' => hv v (hum v hv')
  refine ca_ls r₁.h l2 (by omega) Non (fun b hb => hb.elim) (fun i ys h' => Bs (kf w.params) h0 h' ∧ AllInt ys ∧ ys.length = i) ⟨B₂, (fun v hv => absurd hv (by simp)), rfl⟩
    (fun i ys h' h'' ⟨q1, q2, q3⟩ k => ⟨q1.kx k fun b hb => B₂.off_new hb.1, q2, q3⟩) (fun i v ys h3 tk3 m3 hi ⟨q1, q2, q3⟩ n3 e3 => ?_) (fun ys h3 tk3 D3 hD3 ⟨q1, q2, q3⟩ l3 k3 => ?_)
  · obtain ⟨n, t, rfl⟩ := hui v (List.mem_of_getElem? hi)
    refine wpAny_tests_nil ?_
    rw [if_pos rfl]
    refine wpAny_BinOp (Call_ (nm_B q1 g_int b_int (callWith_type1 (ar_cons (nm_L n3 e3 (ar_nil (call_int_int (e_int fun t4 tk4 => mod_int (by decide) ?_))))))))
    refine ⟨h3, _, rfl, Kx.refl _ _, q1, fun v hv' => ?_, by simp [q3]⟩
    rcases List.mem_append.mp hv' with h1 | h1
    · exact q2 v h1
    · rw [List.mem_singleton] at h1; exact ⟨_, _, h1⟩
  · refine ar_cons (e_int fun t4 tk4 => ar_nil ⟨h3, tk4, rfl, by simp, fun h5 l5 k5 => ?_⟩)
    have kk := (k₁.trans k₂).trans k3
    refine hR h5 tk4 _ D3 (kk.gone_ge (Nat.le_refl _)) ⟨⟨t4, l5⟩, ys, l3.kx k5 (fun h => h), q2, by omega⟩ ?_ (kk.trans k5)
    exact (k₁.trans k₂).gone hD3
end
end Mine

namespace Mine

/-- the law's things -/
structure Ob (w : World) (h : Heap) (f C D1 D2 D3 : Addr) (p : Nat) (k1 k2 k3 : List (Str × Value)) : Prop where
  feed : FeedAt h f C p
  d1 : h.DictOf (strKind prg w) D1 k1
  d2 : h.DictOf (strKind prg w) D2 k2
  d3 : h.DictOf (strKind prg w) D3 k3
theorem Ob.kx {w : World} {h h' : Heap} {f C D1 D2 D3 : Addr} {p : Nat} {k1 k2 k3 : List (Str × Value)} {P : Addr → Prop} (x : Ob w h f C D1 D2 D3 p k1 k2 k3) (k : Kx P h h') (hP : ∀ c ∈ [f, C, D1, D2, D3], ¬ P c) : Ob w h' f C D1 D2 D3 p k1 k2 k3 :=
  ⟨x.feed.kx k (hP _ (by simp)) (hP _ (by simp)), dict_kx x.d1 k (hP _ (by simp)), dict_kx x.d2 k (hP _ (by simp)), dict_kx x.d3 k (hP _ (by simp))⟩
theorem Ob.non {w : World} {h h' : Heap} {f C D1 D2 D3 : Addr} {p : Nat} {k1 k2 k3 : List (Str × Value)} (x : Ob w h f C D1 D2 D3 p k1 k2 k3) (k : Kx Non h h') : Ob w h' f C D1 D2 D3 p k1 k2 k3 := x.kx k fun _ _ h => h
theorem dict_nil {w : World} {h : Heap} {D : Addr} (e : h.get? D = some emptyDict) : h.DictOf (strKind prg w) D [] :=
  ⟨_, #[], 0, e, ⟨rfl, rfl, rfl⟩, rfl, fun _ he => by simp at he, Pairs.nil, List.nodup_nil⟩

/-- the law's state between its statements -/
structure Lw (w : World) (h : Heap) (env : Env) (f C D1 D2 D3 rv : Addr) (rvs : List Value) (tr : Tree) (tv : Value) (p : Nat) (k1 k2 k3 : List (Str × Value)) (h' : Heap) : Prop where
  fr : ∃ m cm, Fx env m cm h' ∧ m (Str.ofString "there") = some (.ref D2) ∧ m (Str.ofString "back") = some (.ref D3) ∧ m (Str.ofString "t") = some tv ∧ m (Str.ofString "rows") = some (.ref rv) ∧ cm (Str.ofString "feed") = some (.ref f) ∧ cm (Str.ofString "table") = some (.ref D1)
  ob : Ob w h' f C D1 D2 D3 p k1 k2 k3
  kk : Kx Non h h'
  it : IsT h' tr tv
  l : Ls h' rv rvs
  rr : RowsV h' (subs tr) rvs
def Wt (env : Env) (f C D1 D2 D3 rv : Addr) (c : Addr) : Prop := Env.mine env c ∨ c ∈ [f, C, D1, D2, D3, rv]
theorem Lw.off {w : World} {h : Heap} {env : Env} {f C D1 D2 D3 rv : Addr} {rvs : List Value} {tr : Tree} {tv : Value} {p : Nat} {k1 k2 k3 : List (Str × Value)} {h' h'' : Heap} {P : Addr → Prop} (X : Lw w h env f C D1 D2 D3 rv rvs tr tv p k1 k2 k3 h') (k : Kx P h' h'')
    (hP : ∀ c, P c → ¬ Wt env f C D1 D2 D3 rv c) (hn : ∀ c, P c → h.get? c = none) : Lw w h env f C D1 D2 D3 rv rvs tr tv p k1 k2 k3 h'' := by
  obtain ⟨⟨m, cm, F, e⟩, ob, kk, it, l, rr⟩ := X
  exact ⟨⟨m, cm, F.kx k fun c hc hm => hP c hc (.inl hm), e⟩, ob.kx k fun c hc hp => hP c hp (.inr (by simp only [List.mem_cons, List.not_mem_nil, or_false] at hc ⊢; rcases hc with h | h | h | h | h <;> simp [h])), kk.more k hn, it.kx k, l.kx k fun hp => hP _ hp (.inr (by simp)), rr.kx k⟩
theorem Lw.non {w : World} {h : Heap} {env : Env} {f C D1 D2 D3 rv : Addr} {rvs : List Value} {tr : Tree} {tv : Value} {p : Nat} {k1 k2 k3 : List (Str × Value)} {h' h'' : Heap} (X : Lw w h env f C D1 D2 D3 rv rvs tr tv p k1 k2 k3 h') (k : Kx Non h' h'') : Lw w h env f C D1 D2 D3 rv rvs tr tv p k1 k2 k3 h'' :=
  X.off k (fun _ h => h.elim) fun _ h => h.elim
theorem Lw.lt {w : World} {h : Heap} {env : Env} {f C D1 D2 D3 rv : Addr} {rvs : List Value} {tr : Tree} {tv : Value} {p : Nat} {k1 k2 k3 : List (Str × Value)} {h' : Heap} (X : Lw w h env f C D1 D2 D3 rv rvs tr tv p k1 k2 k3 h') {c : Addr} (hc : Wt env f C D1 D2 D3 rv c) : c < h'.objs.size := by
  obtain ⟨⟨m, cm, F, e⟩, ob, kk, it, l, rr⟩ := X
  rcases hc with hc | hc
  · exact F.lt hc
  · simp only [List.mem_cons, List.not_mem_nil, or_false] at hc
    rcases hc with rfl | rfl | rfl | rfl | rfl | rfl
    · exact ob.feed.ltf
    · exact ob.feed.ltc
    · exact dict_lt ob.d1
    · exact dict_lt ob.d2
    · exact dict_lt ob.d3
    · exact l.lt
theorem Lw.live {w : World} {h : Heap} {env : Env} {f C D1 D2 D3 rv : Addr} {rvs : List Value} {tr : Tree} {tv : Value} {p : Nat} {k1 k2 k3 : List (Str × Value)} {h' : Heap} (X : Lw w h env f C D1 D2 D3 rv rvs tr tv p k1 k2 k3 h') {c : Addr} (hc : Wt env f C D1 D2 D3 rv c) : ∃ o, h'.get? c = some o := by
  obtain ⟨⟨m, cm, F, e⟩, ob, kk, it, l, rr⟩ := X
  rcases hc with hc | hc
  · exact F.live hc
  · simp only [List.mem_cons, List.not_mem_nil, or_false] at hc
    rcases hc with rfl | rfl | rfl | rfl | rfl | rfl
    · obtain ⟨_, n, q⟩ := ob.feed.f; exact ⟨_, q⟩
    · obtain ⟨_, ⟨n, q⟩, _⟩ := ob.feed.c; exact ⟨_, q⟩
    · obtain ⟨o, _, _, q, _⟩ := ob.d1; exact ⟨_, q⟩
    · obtain ⟨o, _, _, q, _⟩ := ob.d2; exact ⟨_, q⟩
    · obtain ⟨o, _, _, q, _⟩ := ob.d3; exact ⟨_, q⟩
    · obtain ⟨n, q⟩ := l; exact ⟨_, q⟩
/-- a store into one of the other names -/
theorem Lw.put {w : World} {h : Heap} {env : Env} {f C D1 D2 D3 rv : Addr} {rvs : List Value} {tr : Tree} {tv : Value} {p : Nat} {k1 k2 k3 : List (Str × Value)} {h' h'' : Heap} {m cm : Str → Option Value} {x : Str} {v : Value} (X : Lw w h env f C D1 D2 D3 rv rvs tr tv p k1 k2 k3 h')
    (e : m (Str.ofString "there") = some (.ref D2) ∧ m (Str.ofString "back") = some (.ref D3) ∧ m (Str.ofString "t") = some tv ∧ m (Str.ofString "rows") = some (.ref rv) ∧ cm (Str.ofString "feed") = some (.ref f) ∧ cm (Str.ofString "table") = some (.ref D1))
    (F : Fx env (fun y => if y = x then some v else m y) cm h'') (k : Kx (· = env.locals) h' h'') (hL : h.get? env.locals = none) (ho : ∀ c ∈ [f, C, D1, D2, D3, rv], ¬ Env.mine env c)
    (hx : (Str.ofString "there" ≠ x ∧ Str.ofString "back" ≠ x ∧ Str.ofString "t" ≠ x ∧ Str.ofString "rows" ≠ x) := by decide) : Lw w h env f C D1 D2 D3 rv rvs tr tv p k1 k2 k3 h'' := by
  obtain ⟨_, ob, kk, it, l, rr⟩ := X
  have ho' : ∀ c ∈ [f, C, D1, D2, D3, rv], ¬ c = env.locals := fun c hc q => ho c hc (.inl q)
  exact ⟨⟨_, _, F, (if_neg hx.1).trans e.1, (if_neg hx.2.1).trans e.2.1, (if_neg hx.2.2.1).trans e.2.2.1, (if_neg hx.2.2.2).trans e.2.2.2.1, e.2.2.2.2⟩,
    ob.kx k (fun c hc => ho' c (by simp only [List.mem_cons, List.not_mem_nil, or_false] at hc ⊢; rcases hc with h | h | h | h | h <;> simp [h])), kk.more k fun c hc => hc ▸ hL, it.kx k, l.kx k (ho' rv (by simp)), rr.kx k⟩
/-- an object newer than the law's -/
theorem Lw.it' {w : World} {h : Heap} {env : Env} {f C D1 D2 D3 rv : Addr} {rvs : List Value} {tr : Tree} {tv : Value} {p : Nat} {k1 k2 k3 q1 q2 q3 : List (Str × Value)} {q : Nat} {g h' h'' : Heap} {N : Addr} (Y : Lw w h env f C D1 D2 D3 rv rvs tr tv q q1 q2 q3 g) (X : Lw w h env f C D1 D2 D3 rv rvs tr tv p k1 k2 k3 h') (k : Kx (· = N) h' h'') (hN : g.objs.size ≤ N) : Lw w h env f C D1 D2 D3 rv rvs tr tv p k1 k2 k3 h'' :=
  X.off k (fun _ hc hw => Nat.lt_irrefl _ (Nat.lt_of_lt_of_le (Y.lt hw) (hc ▸ hN))) fun _ hc => Y.kk.gone_ge (hc ▸ hN)

/-- the law's addresses, apart -/
structure Ap (env : Env) (h0 h : Heap) (f C D1 D2 D3 rv : Addr) : Prop where
  nd : [f, C, D1, D2, D3, rv].Nodup
  own : ∀ c ∈ [f, C, D1, D2, D3, rv], ¬ Env.mine env c
  new : ∀ c ∈ [f, C, D1, D2, D3, rv], h.get? c = none
  off : ∀ c ∈ [f, C, D1, D2, D3, rv], h0.get? c = none
theorem Lw.dip {w : World} {h0 h : Heap} {env : Env} {f C D1 D2 D3 rv : Addr} {rvs : List Value} {tr : Tree} {tv : Value} {p p' : Nat} {k1 k2 k3 : List (Str × Value)} {h' h'' : Heap} (X : Lw w h env f C D1 D2 D3 rv rvs tr tv p k1 k2 k3 h') (Z : Ap env h0 h f C D1 D2 D3 rv)
    (k : Kx (· = f) h' h'') (T : FeedAt h'' f C p') : Lw w h env f C D1 D2 D3 rv rvs tr tv p' k1 k2 k3 h'' := by
  obtain ⟨⟨m, cm, F, e⟩, ob, kk, it, l, rr⟩ := X
  have nf : ∀ c ∈ [C, D1, D2, D3, rv], ¬ c = f := fun c hc q => (List.nodup_cons.mp Z.nd).1 (q ▸ hc)
  exact ⟨⟨m, cm, F.kx k fun c hc => hc ▸ Z.own f (by simp), e⟩, ⟨T, dict_kx ob.d1 k (nf _ (by simp)), dict_kx ob.d2 k (nf _ (by simp)), dict_kx ob.d3 k (nf _ (by simp))⟩, kk.more k fun c hc => hc ▸ Z.new f (by simp), it.kx k, l.kx k (nf _ (by simp)), rr.kx k⟩
theorem Lw.set1 {w : World} {h0 h : Heap} {env : Env} {f C D1 D2 D3 rv : Addr} {rvs : List Value} {tr : Tree} {tv : Value} {p : Nat} {k1 k2 k3 kn : List (Str × Value)} {h' h'' : Heap} (X : Lw w h env f C D1 D2 D3 rv rvs tr tv p k1 k2 k3 h') (Z : Ap env h0 h f C D1 D2 D3 rv)
    (k : Kx (· = D1) h' h'') (T : h''.DictOf (strKind prg w) D1 kn) : Lw w h env f C D1 D2 D3 rv rvs tr tv p kn k2 k3 h'' := by
  obtain ⟨⟨m, cm, F, e⟩, ob, kk, it, l, rr⟩ := X
  have nd := Z.nd
  simp only [List.nodup_cons, List.mem_cons, List.not_mem_nil, or_false, not_or, List.nodup_nil, not_false_eq_true, and_true] at nd
  obtain ⟨⟨a1, a2, a3, a4, a5⟩, ⟨b2, b3, b4, b5⟩, ⟨c3, c4, c5⟩, ⟨d4, d5⟩, e5⟩ := nd
  exact ⟨⟨m, cm, F.kx k fun c hc => hc ▸ Z.own D1 (by simp), e⟩, ⟨ob.feed.kx k a2 b2, T, dict_kx ob.d2 k (Ne.symm c3), dict_kx ob.d3 k (Ne.symm c4)⟩, kk.more k fun c hc => hc ▸ Z.new D1 (by simp), it.kx k, l.kx k (Ne.symm c5), rr.kx k⟩
theorem Lw.set2 {w : World} {h0 h : Heap} {env : Env} {f C D1 D2 D3 rv : Addr} {rvs : List Value} {tr : Tree} {tv : Value} {p : Nat} {k1 k2 k3 kn : List (Str × Value)} {h' h'' : Heap} (X : Lw w h env f C D1 D2 D3 rv rvs tr tv p k1 k2 k3 h') (Z : Ap env h0 h f C D1 D2 D3 rv)
    (k : Kx (· = D2) h' h'') (T : h''.DictOf (strKind prg w) D2 kn) : Lw w h env f C D1 D2 D3 rv rvs tr tv p k1 kn k3 h'' := by
  obtain ⟨⟨m, cm, F, e⟩, ob, kk, it, l, rr⟩ := X
  have nd := Z.nd
  simp only [List.nodup_cons, List.mem_cons, List.not_mem_nil, or_false, not_or, List.nodup_nil, not_false_eq_true, and_true] at nd
  obtain ⟨⟨a1, a2, a3, a4, a5⟩, ⟨b2, b3, b4, b5⟩, ⟨c3, c4, c5⟩, ⟨d4, d5⟩, e5⟩ := nd
  exact ⟨⟨m, cm, F.kx k fun c hc => hc ▸ Z.own D2 (by simp), e⟩, ⟨ob.feed.kx k a3 b3, dict_kx ob.d1 k c3, T, dict_kx ob.d3 k (Ne.symm d4)⟩, kk.more k fun c hc => hc ▸ Z.new D2 (by simp), it.kx k, l.kx k (Ne.symm d5), rr.kx k⟩
theorem Lw.set3 {w : World} {h0 h : Heap} {env : Env} {f C D1 D2 D3 rv : Addr} {rvs : List Value} {tr : Tree} {tv : Value} {p : Nat} {k1 k2 k3 kn : List (Str × Value)} {h' h'' : Heap} (X : Lw w h env f C D1 D2 D3 rv rvs tr tv p k1 k2 k3 h') (Z : Ap env h0 h f C D1 D2 D3 rv)
    (k : Kx (· = D3) h' h'') (T : h''.DictOf (strKind prg w) D3 kn) : Lw w h env f C D1 D2 D3 rv rvs tr tv p k1 k2 kn h'' := by
  obtain ⟨⟨m, cm, F, e⟩, ob, kk, it, l, rr⟩ := X
  have nd := Z.nd
  simp only [List.nodup_cons, List.mem_cons, List.not_mem_nil, or_false, not_or, List.nodup_nil, not_false_eq_true, and_true] at nd
  obtain ⟨⟨a1, a2, a3, a4, a5⟩, ⟨b2, b3, b4, b5⟩, ⟨c3, c4, c5⟩, ⟨d4, d5⟩, e5⟩ := nd
  exact ⟨⟨m, cm, F.kx k fun c hc => hc ▸ Z.own D3 (by simp), e⟩, ⟨ob.feed.kx k a4 b4, dict_kx ob.d1 k c4, dict_kx ob.d2 k d4, T⟩, kk.more k fun c hc => hc ▸ Z.new D3 (by simp), it.kx k, l.kx k (Ne.symm e5), rr.kx k⟩
theorem Lw.c1 {w : World} {h : Heap} {env : Env} {f C D1 D2 D3 rv : Addr} {rvs : List Value} {tr : Tree} {tv : Value} {p : Nat} {k1 k2 k3 : List (Str × Value)} {h' : Heap} {c : Addr} (X : Lw w h env f C D1 D2 D3 rv rvs tr tv p k1 k2 k3 h') (hc : env.cells.lookup (Str.ofString "feed") = some c) : h'.IsCell c (some (.ref f)) := by
  obtain ⟨⟨m, cm, F, e⟩, _⟩ := X
  have := F.cell _ c hc
  rwa [e.2.2.2.2.1] at this
theorem Lw.c2 {w : World} {h : Heap} {env : Env} {f C D1 D2 D3 rv : Addr} {rvs : List Value} {tr : Tree} {tv : Value} {p : Nat} {k1 k2 k3 : List (Str × Value)} {h' : Heap} {c : Addr} (X : Lw w h env f C D1 D2 D3 rv rvs tr tv p k1 k2 k3 h') (hc : env.cells.lookup (Str.ofString "table") = some c) : h'.IsCell c (some (.ref D1)) := by
  obtain ⟨⟨m, cm, F, e⟩, _⟩ := X
  have := F.cell _ c hc
  rwa [e.2.2.2.2.2] at this
theorem stored_kv {kvs : List (Str × Value)} (hk : StrKv kvs) {k y : Str} {t : Tok} (hy : y.cps.size ≤ 1000) : StrKv (stored kvs k (.str y t)) := fun p hp => by
  rcases stored_mem hp with h | h
  · exact hk p h
  · exact ⟨y, t, h, hy⟩

section
variable {w : World} {A : Around} {s : Shared} {h : Heap} {tk : Nat} {h0 : Heap} {R : Result → Shared → Prop} {E : Value → Shared → Prop} {env : Env}

theorem g_feed : nsIn (kf w.params) mainGlobals "_law_feed" = some (some (.ref 221)) := by k_is
theorem k_feed : keepIn (kf w.params) (.ref 221) = true := by k_is
theorem g_named : nsIn (kf w.params) mainGlobals "_law_is_named_right" = some (some (.ref 273)) := by k_is
theorem k_named : keepIn (kf w.params) (.ref 273) = true := by k_is
theorem g_str : nsIn (kf w.params) mainGlobals (Str.ofString "str") = some none := by k_is
theorem b_str : bootBuiltins (Str.ofString "str") = some (.type "str") := by boot_by_name
theorem g_bright : nsIn (kf w.params) mainGlobals "_law_is_bank_right" = some (some (.ref 266)) := by k_is
theorem k_bright : keepIn (kf w.params) (.ref 266) = true := by k_is
theorem g_signs : ∃ t, nsIn (kf w.params) mainGlobals "_law_signs" = some (some (.str sgn t)) := ⟨_, by k_is⟩

theorem law_spec {a : Addr} {vs : List Value} (r : Rm 20 A) (B : Bs (kf w.params) h0 h) (T : h.IsList a vs.toArray) (hv : AllInt vs) (hl : vs.length ≤ 63) (hfr : A.frames = some [])
    (hR : ∀ d h' tk', (∀ b o, h.get? b = some o → h'.get? b = some o) → R (.ok (.ret (.bool true))) (Sh { s with drawn := d } h' tk')) :
    codeAny (model prg w) A (.call (.ref 278) ⟨[.ref a], []⟩) R (Sh s h tk) := by
  refine enter r B (by k_is) (by k_is) (binds := [(Str.ofString "script", .ref a)]) rfl (by rfl) (fun L h₁ tk₁ hL r₁ B₁ k₁ hm F => ?_)
  have hL1 : ∀ b, F.own b → h.get? b = none := fun b hb => get_none_of_ge (hm b hb).1
  have T₁ : h₁.IsList a vs.toArray := let ⟨o, ho, r⟩ := T; ⟨o, k₁.all a o ho, r⟩
  -- feed, table, there, back
  refine x_tup (e_tuple (s := s) (ar_cons (Call_ (nm_K B₁ g_feed (cw_K (K := kf w.params) (h0 := h0) k_feed (ar_cons (nm_L F.ns (v := .ref a) rfl (ar_nil ⟨B₁, wpAny_call ?_⟩))))))))
  refine feed_specI (n := 10) (r₁.le (by omega)) B₁ T₁ hv hl fun h₂ tk₂ f C hf T₂ hC k₂ => ?_
  refine ar_cons (e_dict0 (s := s) fun h₃ g₃ k₃ => ar_cons (e_dict0 (s := s) fun h₄ g₄ k₄ => ar_cons (e_dict0 (s := s) fun h₅ g₅ k₅ => ar_nil ⟨h₅, tk₂, rfl, by simp, fun h₆ t6 k₆ => ?_⟩)))
  refine as_T4 r₁.h t6 fun h₇ k₇ => ?_
  have k27 : Kx Non h₂ h₇ := ((((k₃.trans k₄).trans k₅).trans k₆).trans k₇)
  have kk7 : Kx Non h h₇ := (k₁.trans k₂).trans k27
  have F7 : Fx F.env _ _ h₇ := F.non (k₂.trans k27)
  have hfe : ∀ c ∈ [f, C, h₂.objs.size, h₃.objs.size, h₄.objs.size], ¬ F.own c := fun c hc ho => by
    obtain ⟨o, q⟩ := F.live ho
    simp only [List.mem_cons, List.not_mem_nil, or_false] at hc
    rcases hc with rfl | rfl | rfl | rfl | rfl
    · rw [hf] at q; cases q
    · rw [hC] at q; cases q
    · exact Nat.lt_irrefl _ (Heap.lt_size (k₂.all _ _ q))
    · exact Nat.lt_irrefl _ (Heap.lt_size ((k₂.trans k₃).all _ _ q))
    · exact Nat.lt_irrefl _ (Heap.lt_size (((k₂.trans k₃).trans k₄).all _ _ q))
  have hnew : ∀ c ∈ [f, C, h₂.objs.size, h₃.objs.size, h₄.objs.size], h.get? c = none := fun c hc => by
    cases q : h.get? c with
    | none => rfl
    | some o =>
      have q := k₁.all _ _ q
      simp only [List.mem_cons, List.not_mem_nil, or_false] at hc
      rcases hc with rfl | rfl | rfl | rfl | rfl
      · rw [hf] at q; cases q
      · rw [hC] at q; cases q
      · exact absurd (Heap.lt_size (k₂.all _ _ q)) (Nat.lt_irrefl _)
      · exact absurd (Heap.lt_size ((k₂.trans k₃).all _ _ q)) (Nat.lt_irrefl _)
      · exact absurd (Heap.lt_size (((k₂.trans k₃).trans k₄).all _ _ q)) (Nat.lt_irrefl _)
  have hnd : [f, C, h₂.objs.size, h₃.objs.size, h₄.objs.size].Nodup := by
    have a1 : @LT.lt Nat _ f h₂.objs.size := T₂.ltf
    have a2 : @LT.lt Nat _ C h₂.objs.size := T₂.ltc
    have a3 : @LT.lt Nat _ h₂.objs.size h₃.objs.size := Heap.lt_size g₃
    have a4 : @LT.lt Nat _ h₃.objs.size h₄.objs.size := Heap.lt_size g₄
    have a5 := T₂.ne
    simp only [List.nodup_cons, List.mem_cons, List.not_mem_nil, or_false, not_or, List.nodup_nil, not_false_eq_true, and_true]
    exact ⟨⟨Ne.symm a5, Nat.ne_of_lt a1, Nat.ne_of_lt (Nat.lt_trans a1 a3), Nat.ne_of_lt (Nat.lt_trans (Nat.lt_trans a1 a3) a4)⟩, ⟨Nat.ne_of_lt a2, Nat.ne_of_lt (Nat.lt_trans a2 a3), Nat.ne_of_lt (Nat.lt_trans (Nat.lt_trans a2 a3) a4)⟩, ⟨Nat.ne_of_lt a3, Nat.ne_of_lt (Nat.lt_trans a3 a4)⟩, Nat.ne_of_lt a4⟩
  have O7 : Ob w h₇ f C h₂.objs.size h₃.objs.size h₄.objs.size 0 [] [] [] :=
    ⟨T₂.kx k27 (fun h => h) fun h => h, dict_nil (((k₄.trans k₅).trans k₆).trans k₇ |>.all _ _ g₃), dict_nil ((k₅.trans k₆).trans k₇ |>.all _ _ g₄), dict_nil (k₆.trans k₇ |>.all _ _ g₅)⟩
  have lo1 : (h₂.objs.size == sysModules) = false := (k₂.bs B₁).notSys (Nat.le_refl _)
  have lo2 : (h₃.objs.size == sysModules) = false := ((k₂.trans k₃).bs B₁).notSys (Nat.le_refl _)
  have lo3 : (h₄.objs.size == sysModules) = false := (((k₂.trans k₃).trans k₄).bs B₁).notSys (Nat.le_refl _)
  generalize h₂.objs.size = D1 at *
  generalize h₃.objs.size = D2 at *
  generalize h₄.objs.size = D3 at *
  have own1 : F.own (L + 1) := .inr ⟨Str.ofString "feed", mem_of_lookup (by rfl)⟩
  have own2 : F.own (L + 2) := .inr ⟨Str.ofString "table", mem_of_lookup (by rfl)⟩
  have ofO : ∀ {P : Addr → Prop}, (∀ c, P c → F.own c) → ∀ c ∈ [f, C, D1, D2, D3], ¬ P c := fun hP c hc hp => hfe c hc (hP c hp)
  have oneO : ∀ {x : Addr}, F.own x → ∀ c ∈ [f, C, D1, D2, D3], ¬ c = x := fun hx c hc e => hfe c hc (e ▸ hx)
  refine as_C (c := L + 1) F7 fun h₈ tk₈ F8 k₈ => as_C (c := L + 2) F8 fun h₉ tk₉ F9 k₉ => as_L F9 fun h10 tk10 F10 k10 => as_L F10 fun h11 tk11 F11 k11 => ?_
  have kk11 : Kx Non h h11 := (((kk7.more k₈ fun c hc => hc ▸ hL1 _ own1).more k₉ fun c hc => hc ▸ hL1 _ own2).more k10 fun c hc => hc ▸ hL1 _ (.inl rfl)).more k11 fun c hc => hc ▸ hL1 _ (.inl rfl)
  have O11 : Ob w h11 f C D1 D2 D3 0 [] [] [] := (((O7.kx k₈ (oneO own1)).kx k₉ (oneO own2)).kx k10 (oneO (.inl rfl))).kx k11 (oneO (.inl rfl))
  clear O7 F7 F8 F9 F10 k₈ k₉ k10 k11 kk7 k27 t6
  -- text
  have own1f : ∀ c, c = L + 1 → F.own c := fun c e => e ▸ own1
  have hof : h0.get? f = none := B.off_ge (hnew f (by simp))
  have B11 := kk11.bs B
  obtain ⟨ts, gs⟩ := g_signs (w := w)
  have c11 : h11.IsCell (L + 1) (some (.ref f)) := F11.cell (Str.ofString "feed") (L + 1) (by rfl)
  refine x_set (e_smeth1 PySem.F.slot_str_join PySem.F.type_str_join (e_str fun t12 tk12 => ⟨Str.ofString "", t12, rfl, ?_⟩))
  refine comp_W (s := s) (cl := [(Str.ofString "feed", L + 1)]) rfl (by decide) (by decide) (Call_ (nm_B B11 g_range b_range (callWith_type1 (ar_cons (Call_ (nm_K B11 g_dip (cw_K (K := kf w.params) (h0 := h0) k_dip (ar_cons (nm_C c11 (ar_cons (e_int fun t13 tk13 => ar_nil ⟨B11, wpAny_call ?_⟩))))))))))) 
  refine dip_spec (n := 10) (k := 5) (r₁.le (by omega)) B11 O11.feed hof (by omega) (by decide) fun h12 tk12 q tq hq T12 k12 => ar_nil (call_range_1 ?_)
  have ff : ∀ c ∈ [f, C, D1, D2, D3], c ≠ f → True := fun _ _ _ => trivial
  have nD : ∀ c ∈ [C, D1, D2, D3], c ≠ f := fun c hc e => by
    have := (List.nodup_cons.mp hnd).1
    exact this (e ▸ hc)
  have Obf : ∀ {h' h'' : Heap} {p p' : Nat} {x1 x2 x3 : List (Str × Value)}, Ob w h' f C D1 D2 D3 p x1 x2 x3 → Kx (· = f) h' h'' → FeedAt h'' f C p' → Ob w h'' f C D1 D2 D3 p' x1 x2 x3 := fun x k T =>
    ⟨T, dict_kx x.d1 k (nD _ (by simp)), dict_kx x.d2 k (nD _ (by simp)), dict_kx x.d3 k (nD _ (by simp))⟩
  have hnf : h.get? f = none := hnew f (by simp)
  have fo : ∀ c, c = f → ¬ F.own c := fun c e => e ▸ hfe f (by simp)
  have O12 := Obf O11 k12 T12
  have B12 := B11.kx k12 fun c hc => hc ▸ hof
  have kk12 := kk11.more k12 fun c hc => hc ▸ hnf
  have F12 := F11.kx k12 fo
  have k13 := Kx.push h12 { cls := .type "range", data := .fields #[.int 0 tk12, .int (q : Nat) tq, .int 1 (tk12 + 1)] }
  have hr13 := IsRange.new h12 0 (q : Nat) 1 tk12 tq (tk12 + 1)
  generalize h12.push { cls := .type "range", data := .fields #[.int 0 tk12, .int (q : Nat) tq, .int 1 (tk12 + 1)] } = h13 at hr13 k13 ⊢
  have B13 := k13.bs B12
  have F13 := F12.non k13
  have O13 := O12.non k13
  have kk13 := kk12.trans k13
  have c13 : h13.IsCell (L + 1) (some (.ref f)) := F13.cell (Str.ofString "feed") (L + 1) (by rfl)
  refine ca_rg (h := h13) (tk := tk12 + 1 + 1) r₁.h hr13 (by omega) (· = f) (fun b hb => by rw [hb]; exact O13.feed.ltf) (fun i ys h' => Bs (kf w.params) h0 h' ∧ h'.IsCell (L + 1) (some (.ref f)) ∧ FeedAt h' f C (1 + i) ∧ OfSigns sgn ys ∧ ys.length = i)
    ⟨B13, c13, O13.feed, (fun v hv => absurd hv (by simp)), rfl⟩ (fun i ys h' h'' ⟨q1, q2, q3, q4, q5⟩ k => ?_) (fun i ys h14 tk14 m14 hi ⟨q1, q2, q3, q4, q5⟩ n14 => ?_) (fun ys h14 tk14 D14 hD14 ⟨q1, q2, q3, q4, q5⟩ l14 k14 => ?_)
  · have old : ∀ b, b < h13.objs.size → ¬ (h13.objs.size ≤ b ∧ b ≤ h13.objs.size + 2) := fun b hb h' => absurd hb (Nat.not_lt.mpr h'.1)
    exact ⟨q1.kx k fun b hb => B13.off_new hb.1, Cell.kx q2 k (old _ c13.lt), q3.kx k (old _ O13.feed.ltf) (old _ O13.feed.ltc), q4, q5⟩
  · refine wpAny_tests_nil ?_
    rw [if_pos rfl]
    refine Subscript_ (nm_K q1 gs (Call_ (nm_K q1 g_dip (cw_K (K := kf w.params) (h0 := h0) k_dip (ar_cons (nm_C q2 (ar_cons (e_len q1 (nm_K q1 gs (P.len_str (by decide) (ar_nil ⟨q1, wpAny_call ?_⟩)))))))))))
    refine dip_spec (n := 10) (k := sgn.length) (r₁.le (by omega)) q1 q3 hof (by omega) (by decide) fun h15 tk15 z tz hz T15 k15 => ?_
    refine sub_sti (show z < sgn.cps.size from hz) (by decide) fun t16 tk16 => ⟨h15, tk16, rfl, k15, q1.kx k15 fun c hc => hc ▸ hof, Cell.kx q2 k15 fun e => fo _ e own1, by rw [← Nat.add_assoc]; exact T15, fun v hv => ?_, by simp [q5]⟩
    rcases List.mem_append.mp hv with hv | hv
    · exact q4 v hv
    · rw [List.mem_singleton.mp hv]
      refine ⟨_, _, ?_, rfl⟩
      rw [Array.getD_eq_getD_getElem?, Array.getElem?_eq_getElem (show z < sgn.cps.size from hz)]
      simp
  refine call_join l14 (by omega) q4 fun text tt tk15 hts htc => ?_
  have F14 := F13.kx k14 fo
  have O14 := Obf O13 k14 q3
  have kk14 := kk13.more k14 fun c hc => hc ▸ hnf
  have htl : text.cps.size ≤ 5 := by omega
  have htw : isOp text = isWord text := word_op fun c hc => sgn_good c (htc c hc)
  clear hts htc l14 k14 O13 O12 F13 F12 k13 hr13 B13 B12 k12 T12 q4 kk13 kk12
  refine st_L F14 fun h15 tk15 F15 k15 => ?_
  have oneO' : ∀ {x : Addr}, x = L → ∀ c ∈ [f, C, D1, D2, D3], ¬ c = x := fun hx => hx ▸ oneO (.inl rfl)
  have O15 := O14.kx k15 (oneO (.inl rfl))
  have kk15 := kk14.more k15 fun c hc => hc ▸ hL1 _ (.inl rfl)
  have B15 := kk15.bs B
  have c15 : h15.IsCell (L + 1) (some (.ref f)) := F15.cell (Str.ofString "feed") (L + 1) (by rfl)
  -- t
  refine x_set (Call_ (nm_K B15 g_drawn (cw_K (K := kf w.params) (h0 := h0) k_drawn (ar_cons (nm_C c15 (ar_cons (e_int fun t16 tk16 => ar_nil ⟨B15, wpAny_call ?_⟩)))))))
  refine drawn_spec 2 (r₁.le (by omega)) B15 O15.feed hof (by have : nDips 2 = 17 := rfl; omega) fun h16 tk16 tr tv p16 dr iT16 hp16 T16 k16 => ?_
  have F16 := F15.kx k16 fo
  have O16 := Obf O15 k16 T16
  have kk16 := kk15.more k16 fun c hc => hc ▸ hnf
  have hp : p16 ≤ 100 := by have : nDips 2 = 17 := rfl; omega
  refine st_L F16 fun h17 tk17 F17 k17 => ?_
  have O17 := O16.kx k17 (oneO (.inl rfl))
  have kk17 := kk16.more k17 fun c hc => hc ▸ hL1 _ (.inl rfl)
  have B17 := kk17.bs B
  have iT17 := iT16.kx k17
  have hsz : (subs tr).length ≤ 13 := dr.parts
  have hht : ht tr ≤ 3 := dr.ht
  have hopm := dr.ops
  have hop3 : ∀ u ∈ subs tr, u.op.cps.size ≤ 3 := fun u hu => ops_size _ (hopm u hu)
  clear F14 F15 F16 O14 O15 O16 k15 k16 k17 kk14 kk15 kk16 c15 c13 c11 iT16 T16 hp16
  -- rows
  refine x_set (Call_ (nm_K B17 g_flat (cw_K (K := kf w.params) (h0 := h0) k_flat (ar_cons (nm_L F17.ns (v := tv) (if_pos rfl) (ar_nil ⟨B17, wpAny_call ?_⟩))))))
  refine flat_spec (n := 10) (r₁.le (by omega)) B17 iT17 (by omega) fun h18 tk18 rv rvs hrv l18 rr18 k18 => ?_
  have F18 := F17.non k18
  have O18 := O17.non k18
  have kk18 := kk17.trans k18
  have nrv : ¬ F.own rv := fun ho => by
    obtain ⟨o, q⟩ := F17.live ho
    rw [hrv] at q; cases q
  have hrvn : h.get? rv = none := kk17.gone hrv
  have rvO : ∀ c ∈ [f, C, D1, D2, D3], c ≠ rv := fun c hc e => by
    subst e
    simp only [List.mem_cons, List.not_mem_nil, or_false] at hc
    rcases hc with rfl | rfl | rfl | rfl | rfl
    · obtain ⟨_, n, q⟩ := O17.feed.f; rw [hrv] at q; cases q
    · obtain ⟨_, ⟨n, q⟩, _⟩ := O17.feed.c; rw [hrv] at q; cases q
    · obtain ⟨o, _, _, q, _⟩ := O17.d1; rw [hrv] at q; cases q
    · obtain ⟨o, _, _, q, _⟩ := O17.d2; rw [hrv] at q; cases q
    · obtain ⟨o, _, _, q, _⟩ := O17.d3; rw [hrv] at q; cases q
  refine st_L F18 fun h19 tk19 F19 k19 => ?_
  have O19 := O18.kx k19 (oneO (.inl rfl))
  have kk19 := kk18.more k19 fun c hc => hc ▸ hL1 _ (.inl rfl)
  have B19 := kk19.bs B
  have iT19 := (iT17.kx k18).kx k19
  have l19 : Ls h19 rv rvs := l18.kx k19 fun e => nrv (.inl e)
  have rr19 := rr18.kx k19
  have hrl : rvs.length = (subs tr).length := (Paired.length rr19).symm
  clear F17 F18 O17 O18 k18 k19 kk17 kk18 l18 rr18 iT17 B17
  have X19 : Lw w h F.env f C D1 D2 D3 rv rvs tr tv p16 [] [] [] h19 := by
    refine ⟨⟨_, _, F19, ?_, ?_, ?_, ?_, rfl, rfl⟩, O19, kk19, iT19, l19, rr19⟩
    · simp only [if_neg (show Str.ofString "there" ≠ Str.ofString "rows" by decide), if_neg (show Str.ofString "there" ≠ Str.ofString "t" by decide), if_neg (show Str.ofString "there" ≠ Str.ofString "text" by decide), if_neg (show Str.ofString "there" ≠ Str.ofString "back" by decide), if_true]
    · simp only [if_neg (show Str.ofString "back" ≠ Str.ofString "rows" by decide), if_neg (show Str.ofString "back" ≠ Str.ofString "t" by decide), if_neg (show Str.ofString "back" ≠ Str.ofString "text" by decide), if_true]
    · exact (if_neg (by decide)).trans (if_pos rfl)
    · exact if_pos rfl
  -- words
  refine x_for (wpAny_BinOp (e_list (s := s) (ar_cons (nm_L F19.ns (v := .str text tt) ((if_neg (by decide)).trans ((if_neg (by decide)).trans (if_pos rfl))) (ar_nil ⟨h19, _, rfl, by simp, fun h20 l20 k20 => ?_⟩)))))
  clear F19 O19 kk19 iT19 l19 rr19
  have X20 := X19.non k20
  obtain ⟨⟨m20, cm20, F20, e20⟩, O20, kk20, iT20, l20r, rr20⟩ := id X20
  have B20 := kk20.bs B
  refine comp_W (s := s) (cl := []) rfl (by decide) (by decide) (nm_L F20.ns e20.2.2.2.1 ?_)
  refine ca_ls2 r₁.h l20r (by omega) (fun v' hv' => ?_) Non (fun b hb => hb.elim) (fun i ys h' => RowsV h' (subs tr) rvs ∧ StrVals (((subs tr).take i).map Tree.op) ys)
    ⟨rr20, .nil⟩ (fun i ys h' h'' ⟨q2, q3⟩ k => ⟨q2.kx k, q3⟩) (by decide) (fun i b ys h' hb ⟨q2, q3⟩ => ?_) (fun i b p1 v1 ys h3 tk3 m3 hb tb ⟨q2, q3⟩ n3 e1 e2 => ?_) (fun ys h21 tk21 D21 hD21 ⟨q2, q3⟩ l21 k21 => ?_)
  · obtain ⟨_, _, b', _, _, e, _⟩ := Paired.get' rr20 (List.mem_iff_getElem?.mp hv' |>.choose_spec)
    exact ⟨b', e⟩
  · obtain ⟨u', _, b'', _, _, e, tb'⟩ := Paired.get' q2 hb
    cases e
    exact ⟨_, _, tb'⟩
  · obtain ⟨u, hu, b'', to, tm, e, tb''⟩ := Paired.get' q2 hb
    cases e
    have := tb.inj tb''
    cases this
    refine wpAny_tests_nil ?_
    rw [if_pos rfl]
    refine nm_L n3 e1 ⟨h3, tk3, rfl, Kx.refl _ _, q2, ?_⟩
    rw [List.take_add_one, hu, Option.toList_some, List.map_append]
    exact Paired.app q3 (.cons ⟨to, rfl⟩ .nil)
  rw [hrl, List.take_length] at q3
  have hyl : ys.length = (subs tr).length := by have := Paired.length q3; rw [List.length_map] at this; exact this.symm
  refine add_ls (l20.kx k21 fun h => h) l21 (by simp; omega) fun h22 c22 l22 hc22 k22 => ?_
  have X21 := X20.non k21
  have X22 := X21.non k22
  clear X20 F20 O20 iT20 l20r rr20 k21 k22 B20 e20 kk20
  have hwords : StrVals (text :: (subs tr).map Tree.op) ([Value.str text tt] ++ ys) := .cons ⟨tt, rfl⟩ q3
  have hL0 : h.get? L = none := hL1 L (.inl rfl)
  have hfe6 : ∀ c ∈ [f, C, D1, D2, D3, rv], ¬ F.own c := fun c hc => by
    simp only [List.mem_cons, List.not_mem_nil, or_false] at hc
    rcases hc with h | h | h | h | h | h
    · exact hfe c (by simp [h])
    · exact hfe c (by simp [h])
    · exact hfe c (by simp [h])
    · exact hfe c (by simp [h])
    · exact hfe c (by simp [h])
    · rw [h]; exact nrv
  have hwok : ∀ x ∈ text :: (subs tr).map Tree.op, isOp x = isWord x ∧ x.cps.size ≤ 5 := fun x hx => by
    rcases List.mem_cons.mp hx with rfl | hx
    · exact ⟨htw, htl⟩
    · obtain ⟨u, hu, rfl⟩ := List.mem_map.mp hx
      exact ⟨word_op (ops_good _ (hopm u hu)), Nat.le_trans (hop3 u hu) (by decide)⟩
  refine for_ls r₁.h l22 TgOk.name F.own (fun c hc => ⟨X22.lt (.inl hc), fun e => ?_⟩) (fun i h' => Lw w h F.env f C D1 D2 D3 rv rvs tr tv p16 [] [] [] h') X22 (fun i h' h'' X k => X22.it' X k (Nat.le_refl _)) ?_ ?_
  · obtain ⟨o, q⟩ := X21.live (.inl hc)
    rw [e, hc22] at q; cases q
  · rintro i v h23 tk23 hv X23
    obtain ⟨⟨m, cm, G, e⟩, _, _, _, _, _⟩ := id X23
    obtain ⟨word, tw, hw, rfl⟩ := hwords.at hv
    obtain ⟨hg1, hg2⟩ := hwok word (List.mem_of_getElem? hw)
    refine as_L G fun h24 tk24 G24 k24 => ?_
    have X24 := X23.put e G24 k24 hL0 hfe6
    have B24 := X24.kk.bs B
    refine x_if (wpAny_isTrue_Compare1 (Call_ (nm_K B24 g_isop (cw_K (K := kf w.params) (h0 := h0) k_isop (ar_cons (nm_L G24.ns (v := .str word tw) (if_pos rfl) (ar_nil ⟨B24, wpAny_call ?_⟩)))))))
    refine isop_spec (n := 10) (r₁.le (by omega)) B24 (by omega) fun h25 tk25 k25 => ?_
    refine Call_ (nm_K (k25.bs B24) g_word (cw_K (K := kf w.params) (h0 := h0) k_word (ar_cons (nm_L (G24.non k25).ns (v := .str word tw) (if_pos rfl) (ar_nil ⟨k25.bs B24, wpAny_call ?_⟩)))))
    refine isword_spec (n := 10) (r₁.le (by omega)) (k25.bs B24) (by omega) fun h26 tk26 k26 => wpAny_isNot_plain (by cases isOp word <;> cases isWord word <;> rfl) (wpAny_truthy_bool ?_)
    rw [hg1, show (!(Value.bool (isWord word) == Value.bool (isWord word))) = false by simp]
    simp only [Bool.false_eq_true, if_false]
    exact wpAny_execs_nil (wpAny_execs_nil ⟨h26, tk26, rfl, (k24.mono fun c hc => .inl hc).trans (k25.trans k26).ofNon, (X24.non k25).non k26⟩)
  intro h23 tk23 X23
  clear X22 X19 l22 hwords hwok X21 htw htl
  -- table
  have Z : Ap F.env h0 h f C D1 D2 D3 rv := by
    refine ⟨?_, hfe6, fun c hc => ?_, fun c hc => B.off_ge ?_⟩
    · have a := hnd
      simp only [List.nodup_cons, List.mem_cons, List.not_mem_nil, or_false, not_or, List.nodup_nil, not_false_eq_true, and_true] at a ⊢
      obtain ⟨⟨a1, a2, a3, a4⟩, ⟨b2, b3, b4⟩, ⟨c3, c4⟩, d4⟩ := a
      exact ⟨⟨a1, a2, a3, a4, rvO _ (by simp)⟩, ⟨b2, b3, b4, rvO _ (by simp)⟩, ⟨c3, c4, rvO _ (by simp)⟩, ⟨d4, rvO _ (by simp)⟩, rvO _ (by simp)⟩
    all_goals
      simp only [List.mem_cons, List.not_mem_nil, or_false] at hc
      rcases hc with h | h | h | h | h | h
      · exact hnew c (by simp [h])
      · exact hnew c (by simp [h])
      · exact hnew c (by simp [h])
      · exact hnew c (by simp [h])
      · exact hnew c (by simp [h])
      · rw [h]; exact hrvn
  clear hnd rvO nrv hfe ofO oneO oneO' Obf nD ff fo hnew
  have B23 := X23.kk.bs B
  refine x_for (Call_ (nm_B B23 g_range b_range (callWith_type1 (ar_cons (Call_ (nm_K B23 g_dip (cw_K (K := kf w.params) (h0 := h0) k_dip (ar_cons (nm_C (X23.c1 (c := L + 1) (by rfl)) (ar_cons (e_int fun t24 tk24 => ar_nil ⟨B23, wpAny_call ?_⟩)))))))))))
  refine dip_spec (n := 10) (k := 4) (r₁.le (by omega)) B23 X23.ob.feed hof (by omega) (by decide) fun h24 tk24 q2 tq2 hq2 T24 k24 => ar_nil (call_range_1 ?_)
  have X24 := X23.dip Z k24 T24
  have k25 := Kx.push h24 { cls := .type "range", data := .fields #[.int 0 tk24, .int (q2 : Nat) tq2, .int 1 (tk24 + 1)] }
  have hr25 := IsRange.new h24 0 (q2 : Nat) 1 tk24 tq2 (tk24 + 1)
  generalize h24.push { cls := .type "range", data := .fields #[.int 0 tk24, .int (q2 : Nat) tq2, .int 1 (tk24 + 1)] } = h25 at hr25 k25 ⊢
  have X25 := X24.non k25
  clear X23 X24 k24 T24 B23 k25
  refine for_rg (h := h25) (tk := tk24 + 1 + 1) r₁.h hr25 (by omega) (Wt F.env f C D1 D2 D3 rv) (fun b hb => X25.lt hb) (fun i h' => ∃ p kvs, Lw w h F.env f C D1 D2 D3 rv rvs tr tv p kvs [] [] h' ∧ p ≤ p16 + 1 + 2 * i ∧ StrKv kvs ∧ kvs.length ≤ i)
    ⟨_, _, X25, by omega, (fun p hp => by cases hp), by simp⟩ (fun i h' h'' ⟨p, kvs, X, a1, a2, a3⟩ k => ⟨p, kvs, X25.it' X k (Nat.le_refl _), a1, a2, a3⟩) ?_ ?_
  · rintro i ti h26 tk26 hi ⟨p, kvs, X26, hp26, hkv, hkl⟩
    obtain ⟨⟨m, cm, G, e⟩, _, _, _, _, _⟩ := id X26
    refine as_L G fun h27 tk27 G27 k27 => ?_
    have X27 := X26.put e G27 k27 hL0 hfe6
    have B27 := X27.kk.bs B
    have m27 : Kx (Wt F.env f C D1 D2 D3 rv) h26 h27 := k27.mono fun c hc => .inl (.inl hc)
    refine x_set (Subscript_ (Call_ (nm_K B27 g_ops (cw_K0 k_ops B27 (wpAny_call (ops_spec (n := 10) (r₁.le (by omega)) B27 fun h28 tk28 Da va hDa la sva k28 => ?_))))))
    have X28 := X27.non k28
    have B28 := k28.bs B27
    refine Call_ (nm_K B28 g_dip (cw_K (K := kf w.params) (h0 := h0) k_dip (ar_cons (nm_C (X28.c1 (c := L + 1) (by rfl)) (ar_cons ?_)))))
    refine e_len B28 (Call_ (nm_K B28 g_ops (cw_K0 k_ops B28 (wpAny_call (ops_spec (n := 10) (r₁.le (by omega)) B28 fun h29 tk29 Db vb hDb lb svb k29 => ?_)))))
    have e10 : vb.length = 10 := by rw [← Paired.length svb]; rfl
    refine len_ls lb (by omega) fun t30 tk30 => ar_nil ⟨k29.bs B28, wpAny_call ?_⟩
    rw [e10]
    have B29 := k29.bs B28
    have X29 := X28.non k29
    refine dip_spec (n := 10) (k := 10) (r₁.le (by omega)) B29 X29.ob.feed hof (by omega) (by decide) fun h30 tk30 z tz hz T30 k30 => ?_
    have X30 := X29.dip Z k30 T30
    have nDa : Da ≠ f := fun q => by
      obtain ⟨o, q'⟩ := X27.live (c := f) (.inr (by simp))
      rw [← q, hDa] at q'; cases q'
    have l30 : Ls h30 Da va := (la.kx k29 fun h => h).kx k30 nDa
    have hz2 : z < va.length := by rw [← Paired.length sva]; exact hz
    obtain ⟨op, to, hop, ev⟩ := sva.at (List.getElem?_eq_getElem hz2)
    refine sub_ls (x := .str op to) l30 (by omega) (by omega) (by rw [Int.toNat_natCast, ← ev]; exact List.getElem?_eq_getElem hz2) ?_
    obtain ⟨⟨m30, cm30, G30, e30⟩, _, _, _, _, _⟩ := id X30
    refine st_L G30 fun h31 tk31 G31 k31 => ?_
    have X31 := X30.put e30 G31 k31 hL0 hfe6
    have m31 : Kx (Wt F.env f C D1 D2 D3 rv) h26 h31 := ((m27.trans (k28.trans k29).ofNon).trans (k30.mono fun c hc => .inr (by simp [show c = f from hc]))).trans (k31.mono fun c hc => .inl (.inl hc))
    clear X26 X27 X28 X29 X30 B27 B28 B29 k27 k28 k29 k30 k31 la l30 lb G27
    have B31 := X31.kk.bs B
    refine wpAny_execs_cons (wpAny_Assign_Subscript (Subscript_ (e_list (s := s) (ar_cons (e_str fun ta tka => ar_cons (e_str fun tb tkb => ar_cons (e_str fun tc tkc => ar_cons (e_str fun td tkd => ar_nil ⟨h31, _, rfl, by simp, fun h32 l32 k32 => ?_⟩))))))))
    have X32 := X31.non k32
    have B32 := k32.bs B31
    refine Call_ (nm_K B32 g_dip (cw_K (K := kf w.params) (h0 := h0) k_dip (ar_cons (nm_C (X32.c1 (c := L + 1) (by rfl)) (ar_cons (e_int fun t33 tk33 => ar_nil ⟨B32, wpAny_call ?_⟩))))))
    refine dip_spec (n := 10) (k := 4) (r₁.le (by omega)) B32 X32.ob.feed hof (by omega) (by decide) fun h33 tk33 y ty hy T33 k33 => ?_
    have X33 := X32.dip Z k33 T33
    have n31 : h31.objs.size ≠ f := fun q => by
      have := X31.lt (c := f) (.inr (by simp))
      rw [← q] at this; exact Nat.lt_irrefl _ this
    have l33 := l32.kx k33 n31
    obtain ⟨word, tw, hword, hws⟩ : ∃ x t, [Value.str (Str.ofString "n") ta, .str (Str.ofString "?n") tb, .str (Str.ofString "f") tc, .str (Str.ofString "?x") td][y]? = some (Value.str x t) ∧ x.cps.size ≤ 5 := by
      match y, hy with
      | 0, _ => exact ⟨_, _, rfl, by decide⟩
      | 1, _ => exact ⟨_, _, rfl, by decide⟩
      | 2, _ => exact ⟨_, _, rfl, by decide⟩
      | 3, _ => exact ⟨_, _, rfl, by decide⟩
    refine sub_ls (x := .str word tw) l33 (by omega) (by omega) (by rw [Int.toNat_natCast]; exact hword) ?_
    have G33 := (G31.non k32).kx k33 fun c hc => hc ▸ hfe6 f (by simp)
    refine nm_C (X33.c2 (c := L + 2) (by rfl)) (nm_L G33.ns (v := .str op to) (if_pos rfl) ?_)
    refine wpAny_setItem_pairs (knd := strKind prg w) (k := op) (strKind_is _ _ op to) X33.ob.d1 (fun h34 D34 sb34 => wpAny_execs_nil ?_) (by rw [sizeLine_eq]; omega)
    have k34 : Kx (· = D1) h33 h34 := Kx.same sb34 (dict_not_tp X33.ob.d1)
    have X34 := X33.set1 Z k34 D34
    refine ⟨h34, _, rfl, ((m31.trans k32.ofNon).trans (k33.mono fun c hc => .inr (by simp [show c = f from hc]))).trans (k34.mono fun c hc => .inr (by simp [show c = D1 from hc])), _, _, X34, by omega, stored_kv hkv (by omega), ?_⟩
    have := stored_length_le kvs op (.str word tw)
    omega
  rintro h26 tk26 ⟨p, kvs, X26, hp26, hkv, hkl⟩
  clear X25 hr25
  obtain ⟨⟨m, cm, G, e⟩, _, _, _, _, _⟩ := id X26
  have B26 := X26.kk.bs B
  -- late
  refine x_set (Call_ (nm_K B26 g_renamed (cw_K (K := kf w.params) (h0 := h0) k_renamed (ar_cons (nm_L G.ns e.2.2.1 (ar_cons (nm_C (X26.c2 (c := L + 2) (by rfl)) (ar_nil ⟨B26, wpAny_call ?_⟩))))))))
  refine renamed_spec tr (r₁.le (by omega)) B26 X26.it (by omega) X26.ob.d1 lo1 hkv fun h27 tk27 lv iL27 k27 => ?_
  have X27 := X26.non k27
  refine st_L (G.non k27) fun h28 tk28 G28 k28 => ?_
  have X28 := X27.put e G28 k28 hL0 hfe6
  have iL28 := iL27.kx k28
  have B28 := X28.kk.bs B
  have e28 : (fun y => if y = Str.ofString "late" then some lv else m y) (Str.ofString "rows") = some (.ref rv) := (if_neg (by decide)).trans e.2.2.2.1
  have e28t : (fun y => if y = Str.ofString "late" then some lv else m y) (Str.ofString "t") = some tv := (if_neg (by decide)).trans e.2.2.1
  clear X26 X27 k27 k28 iL27 G B26
  have hszR : (subs (rename (lk kvs) tr)).length ≤ 13 := by rw [subs_rename, List.length_map]; exact hsz
  have hhtR : ht (rename (lk kvs) tr) ≤ 3 := by rw [ht_rename]; exact hht
  have hopsR : OpsOk (rename (lk kvs) tr) := fun u hu => by
    rw [subs_rename] at hu
    obtain ⟨u', hu', rfl⟩ := List.mem_map.mp hu
    rw [rename_op]
    exact hkv.size (Nat.le_trans (hop3 u' hu') (by decide))
  have hopsT : OpsOk tr := fun u hu => Nat.le_trans (hop3 u hu) (by decide)
  -- the renamed rows
  refine x_if (wpAny_isTrue_Compare1 (Call_ (nm_K B28 g_flat (cw_K (K := kf w.params) (h0 := h0) k_flat (ar_cons (nm_L G28.ns (v := lv) (if_pos rfl) (ar_nil ⟨B28, wpAny_call ?_⟩)))))))
  refine flat_spec (n := 10) (r₁.le (by omega)) B28 iL28 (by omega) fun h29 tk29 fa fvs hfa l29 rr29 k29 => ?_
  have X29 := X28.non k29
  have B29 := k29.bs B28
  have G29 := G28.non k29
  refine comp_W (s := s) (cl := [(Str.ofString "table", L + 2)]) rfl (by decide) (by decide) (nm_L G29.ns e28 ?_)
  refine ca_ls2 r₁.h X29.l (by omega) (fun v' hv' => ?_) Non (fun b hb => hb.elim) (fun i ys h' => h'.IsCell (L + 2) (some (.ref D1)) ∧ h'.DictOf (strKind prg w) D1 kvs ∧ RowsV h' (subs tr) rvs ∧ RowsV h' (((subs tr).take i).map (rename (lk kvs))) ys)
    ⟨X29.c2 (c := L + 2) (by rfl), X29.ob.d1, X29.rr, .nil⟩ (fun i ys h' h'' ⟨q1, q2, q3, q4⟩ k => ?_) (by decide) (fun i b ys h' hb ⟨q1, q2, q3, q4⟩ => ?_) (fun i b p1 v1 ys h3 tk3 m3 hb tb ⟨q1, q2, q3, q4⟩ n3 e1 e2 => ?_) (fun ys h30 tk30 D30 hD30 ⟨q1, q2, q3, q4⟩ l30 k30 => ?_)
  · obtain ⟨_, _, b', _, _, e, _⟩ := Paired.get' X29.rr (List.mem_iff_getElem?.mp hv' |>.choose_spec)
    exact ⟨b', e⟩
  · have old : ∀ b, b < h29.objs.size → ¬ (h29.objs.size ≤ b ∧ b ≤ h29.objs.size + 2) := fun b hb h' => absurd hb (Nat.not_lt.mpr h'.1)
    exact ⟨Cell.kx q1 k (old _ (X29.c2 (c := L + 2) (by rfl)).lt), dict_kx q2 k (old _ (dict_lt X29.ob.d1)), q3.kx k, q4.kx k⟩
  · obtain ⟨u', _, b'', _, _, e, tb'⟩ := Paired.get' q3 hb
    cases e
    exact ⟨_, _, tb'⟩
  · obtain ⟨u, hu, b'', to, tm, e, tb''⟩ := Paired.get' q3 hb
    cases e
    have := tb.inj tb''
    cases this
    refine wpAny_tests_nil ?_
    rw [if_pos rfl]
    refine e_tuple (s := s) (ar_cons (e_dmeth2 (knd := strKind prg w) PySem.F.slot_dict_get PySem.F.type_dict_get (nm_C q1 ⟨D1, kvs, rfl, q2, nm_L n3 e1 (nm_L n3 e1 ?_)⟩)))
    refine (call_meetsIn PySem.F.slot_dict_get q2.typeIs PySem.F.entry_dict_get (PySem.F.args_dict_get_3 _ _ _) (meets_dict_get_default (strKind prg w) D1 (strKind_is _ _ u.op to) lo1 (.str u.op to)) ⟨_, q2.mapOf, ?_⟩)
    obtain ⟨t4, e4⟩ := hkv.getD u.op to
    rw [e4]
    refine ar_cons (nm_L n3 e2 (ar_nil ⟨h3, _, rfl, by simp, fun h4 t5 k4 => ⟨h4, _, rfl, k4, Cell.kx q1 k4 fun h => h, q2.keep k4.all, q3.kx k4, ?_⟩⟩))
    rw [List.take_add_one, hu, Option.toList_some, List.map_append]
    exact Paired.app (q4.kx k4) (.cons ⟨_, t4, tm, rfl, by rw [rename_op, rename_kids]; exact t5⟩ .nil)
  rw [hrl, List.take_length, ← subs_rename] at q4
  refine ne_rows_same (s := Sh s h30 tk30) r₁.units1 (l29.kx k30 fun h => h) l30 (rr29.kx k30) q4 (wpAny_truthy_bool ?_)
  simp only [Bool.false_eq_true, if_false]
  refine wpAny_execs_nil ?_
  have X30 := X29.non k30
  have G30 := G29.non k30
  have B30 := X30.kk.bs B
  have iL30 := iL28.kx (k29.trans k30)
  clear X28 X29 G28 G29 B28 B29 iL28 k29 k30 l29 l30 rr29 q1 q2 q3 q4
  -- the names
  refine x_if (wpAny_isTrue_BoolOp (wpAny_allTrue_Or_cons (wpAny_isTrue_Not (wpAny_isTrue_value (Call_ (nm_K B30 g_named (cw_K (K := kf w.params) (h0 := h0) k_named (ar_cons (nm_L G30.ns e28t (ar_nil ⟨B30, wpAny_call ?_⟩))))))))))
  refine named_right_spec (r₁.le (by omega)) B30 X30.it (by omega) (by omega) hopsT fun d h31 tk31 k31 => wpAny_truthy_bool ?_
  have X31 := X30.non k31
  have G31 := G30.non k31
  have B31 := k31.bs B30
  simp only [Bool.not_true, Bool.false_eq_true, if_false]
  refine wpAny_allTrue_Or_cons (wpAny_isTrue_Not (wpAny_isTrue_value (Call_ (nm_K (s := { s with drawn := d }) B31 g_named (cw_K (K := kf w.params) (h0 := h0) k_named (ar_cons (nm_L G31.ns (v := lv) (if_pos rfl) (ar_nil ⟨B31, wpAny_call ?_⟩))))))))
  refine named_right_spec (s := { s with drawn := d }) (r₁.le (by omega)) B31 (iL30.kx k31) (by omega) (by omega) hopsR fun d' h32 tk32 k32 => wpAny_truthy_bool ?_
  have X32 := X31.non k32
  have G32 := G31.non k32
  simp only [Bool.not_true, Bool.false_eq_true, if_false]
  refine wpAny_allTrue_Or_nil ?_
  simp only [Bool.false_eq_true, if_false]
  refine wpAny_execs_nil ?_
  clear X30 X31 G30 G31 B30 B31 iL30 k31 k32
  -- there, back
  obtain ⟨s', hs'⟩ : ∃ s' : Shared, s' = { s with drawn := d' } := ⟨_, rfl⟩
  have hR' : ∀ d h' tk', (∀ b o, h.get? b = some o → h'.get? b = some o) → R (.ok (.ret (.bool true))) (Sh { s' with drawn := d } h' tk') := fun d h' tk' hk => by rw [hs']; exact hR d h' tk' hk
  show wpAny _ _ _ _ _ (Sh { s with drawn := d' } h32 tk32)
  rw [← hs']
  clear hs'
  have nD2 : ∀ c, c = D2 → ¬ F.own c := fun c hc => hc ▸ hfe6 D2 (by simp)
  have hrefs : ∀ v' ∈ rvs, ∃ T, v' = Value.ref T := fun v' hv' => by
    obtain ⟨_, _, b', _, _, e, _⟩ := Paired.get' X32.rr (List.mem_iff_getElem?.mp hv' |>.choose_spec)
    exact ⟨b', e⟩
  have hne : ∀ c, (F.own c ∨ c = D2 ∨ c = D3) → c ≠ rv := fun c hc e => by
    have nd := Z.nd
    simp only [List.nodup_cons, List.mem_cons, List.not_mem_nil, or_false, not_or, List.nodup_nil, not_false_eq_true, and_true] at nd
    rcases hc with hc | hc | hc
    · exact hfe6 rv (by simp) (e ▸ hc)
    · exact nd.2.2.2.1.2 (hc.symm.trans e)
    · exact nd.2.2.2.2 (hc.symm.trans e)
  refine x_for (nm_L G32.ns e28 (for_ls r₁.h X32.l (.inr ⟨⟨_, _, _, rfl⟩, hrefs⟩) (fun c => F.own c ∨ c = D2 ∨ c = D3) (fun c hc => ⟨X32.lt (hc.elim .inl fun hc => .inr (by rcases hc with h | h <;> simp [h])), hne c hc⟩)
    (fun i h' => ∃ Tt Bk, Lw w h F.env f C D1 D2 D3 rv rvs tr tv p kvs Tt Bk h' ∧ Two (((subs tr).take i).map Tree.op) Tt Bk) ⟨_, _, X32, Two.nil⟩ (fun i h' h'' ⟨Tt, Bk, X, Y⟩ k => ⟨Tt, Bk, X32.it' X k (Nat.le_refl _), Y⟩) ?_ ?_))
  · rintro i v h33 tk33 hv ⟨Tt, Bk, X33, Y⟩
    obtain ⟨⟨m, cm, G, e⟩, _, _, _, _, _⟩ := id X33
    obtain ⟨u, hu, b', to, tm, rfl, tb⟩ := Paired.get' X33.rr hv
    have hmem : u ∈ subs tr := List.mem_of_getElem? hu
    have hil : i < 13 := by have := (List.getElem?_eq_some_iff.mp hu).1; omega
    have hosl : (((subs tr).take i).map Tree.op).length < 15 := by rw [List.length_map, List.length_take]; omega
    have hos : ((subs tr).take (i + 1)).map Tree.op = ((subs tr).take i).map Tree.op ++ [u.op] := by rw [List.take_add_one, hu, Option.toList_some, List.map_append]; rfl
    refine as_T2 r₁.h tb fun h34 k34 => as_L (G.non k34) fun h35 tk35 G35 k35 => as_L G35 fun h36 tk36 G36 k36 => ?_
    have X35 := (X33.non k34).put e G35 k35 hL0 hfe6
    have e35 : (fun y => if y = Str.ofString "op" then some (Value.str u.op to) else m y) (Str.ofString "there") = some (.ref D2) ∧ (fun y => if y = Str.ofString "op" then some (Value.str u.op to) else m y) (Str.ofString "back") = some (.ref D3) ∧ (fun y => if y = Str.ofString "op" then some (Value.str u.op to) else m y) (Str.ofString "t") = some tv ∧ (fun y => if y = Str.ofString "op" then some (Value.str u.op to) else m y) (Str.ofString "rows") = some (.ref rv) ∧ cm (Str.ofString "feed") = some (.ref f) ∧ cm (Str.ofString "table") = some (.ref D1) :=
      ⟨(if_neg (by decide)).trans e.1, (if_neg (by decide)).trans e.2.1, (if_neg (by decide)).trans e.2.2.1, (if_neg (by decide)).trans e.2.2.2.1, e.2.2.2.2⟩
    have X36 := X35.put (m := fun y => if y = Str.ofString "op" then some (Value.str u.op to) else m y) (x := Str.ofString "many") e35 G36 k36 hL0 hfe6
    have B36 := X36.kk.bs B
    have m36 : Kx (fun c => F.own c ∨ c = D2 ∨ c = D3) h33 h36 := (k34.ofNon.trans (k35.mono fun c hc => .inl (.inl hc))).trans (k36.mono fun c hc => .inl (.inl hc))
    have eop : (fun y => if y = Str.ofString "many" then some (Value.int (u.kids.length : Nat) tm) else if y = Str.ofString "op" then some (Value.str u.op to) else m y) (Str.ofString "op") = some (Value.str u.op to) := (if_neg (by decide)).trans (if_pos rfl)
    have eth : (fun y => if y = Str.ofString "many" then some (Value.int (u.kids.length : Nat) tm) else if y = Str.ofString "op" then some (Value.str u.op to) else m y) (Str.ofString "there") = some (.ref D2) := (if_neg (by decide)).trans e35.1
    have eba : (fun y => if y = Str.ofString "many" then some (Value.int (u.kids.length : Nat) tm) else if y = Str.ofString "op" then some (Value.str u.op to) else m y) (Str.ofString "back") = some (.ref D3) := (if_neg (by decide)).trans e35.2.1
    clear X33 X35 G G35 k34 k35 k36
    have hTl : Tt.length ≤ 15 := by have := Y.len; omega
    have hBl : Bk.length ≤ 15 := by have := Y.blen; omega
    refine x_expr' (wpAny_mono (Q := fun v s'' => ∃ h37 tk37 T' j t', s'' = Sh s' h37 tk37 ∧ (∀ a, v ≠ Value.ref a) ∧ Lw w h F.env f C D1 D2 D3 rv rvs tr tv p kvs T' Bk h37 ∧ Kx (· = D2) h36 h37 ∧ valueAt T' u.op = some (Value.str (nm j) t') ∧ ∀ t, Two (((subs tr).take i).map Tree.op ++ [u.op]) T' (stored Bk (nm j) (.str u.op t))) ?_ ?_ fun _ _ z => z)
    · refine e_dmeth2 (knd := strKind prg w) PySem.F.slot_dict_setdefault PySem.F.type_dict_setdefault (nm_L G36.ns eth ⟨D2, Tt, rfl, X36.ob.d2, nm_L G36.ns eop (wpAny_BinOp (e_str fun t37 tk37 => Call_ (nm_B B36 g_str b_str (callWith_type1 (ar_cons (e_len B36 (nm_L G36.ns eth (call_len_dict (s := Sh s' h36 tk37) lo2 X36.ob.d2 (by omega) (ar_nil (P.str_of_int ?_ ?_))))))))))⟩)
      · have : ((Tt.length : Nat) : Int).natAbs = Tt.length := by omega
        rw [this]
        exact Nat.lt_of_le_of_lt (Nat.log2_le_self _) (by omega)
      · refine add_str (s := Sh s' h36 _) (fun t38 tk38 => ?_) (by
          have h1 := nm_size Tt.length (by omega)
          have h2 : (nm Tt.length).length = (nm Tt.length).cps.size := rfl
          have h3 : (nm Tt.length).length = (Str.ofString "n").length + (Str.ofString (toString ((Tt.length : Nat) : Int))).length := strLen_append _ _
          rw [sizeLine_eq]; omega)
        refine setdefault_pairs (tk := tk38) (strKind_is _ _ u.op to) X36.ob.d2 lo2 (by omega) (fun v hv => ?_) fun hn h37 D37 k37 => ?_
        · have hin : u.op ∈ Tt.map (·.1) := Classical.byContradiction fun hn => by
            rw [valueAt_none hn] at hv; cases hv
          obtain ⟨j, t', ej⟩ := Y.at hin
          have hval := valueAt_at Y.nd ej
          rw [hval] at hv
          cases hv
          exact ⟨h36, _, Tt, j, t', rfl, (fun a q => by cases q), X36, Kx.refl _ _, hval, fun t => Y.old hosl ej (Nat.le_trans (hop3 u hmem) (by decide))⟩
        · refine ⟨h37, _, _, Tt.length, t38, rfl, (fun a q => by cases q), X36.set2 Z k37 D37, k37, ?_, fun t => Y.new hosl hn (Nat.le_trans (hop3 u hmem) (by decide))⟩
          have Y' := Y.new (t' := t38) (t := 0) hosl hn (Nat.le_trans (hop3 u hmem) (by decide))
          exact valueAt_at Y'.nd (j := Tt.length) (by simp)
    · rintro v s'' ⟨h37, tk37, T', j, t', rfl, hvr, X37, k37, hval, hTwo⟩
      refine ⟨hvr, ?_⟩
      have G37 := G36.kx k37 nD2
      refine wpAny_execs_cons (wpAny_Assign_Subscript (nm_L G37.ns eop (nm_L G37.ns eba (Subscript_ (nm_L G37.ns eth (nm_L G37.ns eop ?_))))))
      refine tail_any (s := Sh s' h37 tk37) X37.ob.d2.typeIs slot_dict_getitem.lookup (wpAny_getItem_of (s := Sh s' h37 tk37) (knd := strKind prg w) (k := u.op) (strKind_is _ _ u.op to) X37.ob.d2.mapOf hval ?_) (by with_unfolding_all rfl)
      refine wpAny_setItem_pairs (knd := strKind prg w) (k := nm j) (strKind_is _ _ (nm j) t') X37.ob.d3 (fun h38 D38 sb38 => wpAny_execs_nil ?_) (by rw [sizeLine_eq]; omega)
      have k38 : Kx (· = D3) h37 h38 := Kx.same sb38 (dict_not_tp X37.ob.d3)
      rw [hos]
      exact ⟨h38, _, rfl, (m36.trans (k37.mono fun c hc => .inr (.inl hc))).trans (k38.mono fun c hc => .inr (.inr hc)), _, _, X37.set3 Z k38 D38, hTwo to⟩
  rintro h33 tk33 ⟨Tt, Bk, X33, Y⟩
  clear X32 G32 hrefs hne
  rw [hrl, List.take_length] at Y
  have B33 := X33.kk.bs B
  obtain ⟨⟨m, cm, G, e⟩, _, _, _, _, _⟩ := id X33
  have hYl : ((subs tr).map Tree.op).length < 20 := by rw [List.length_map]; omega
  have hTk := Y.strKv hYl
  have hlk := fun u (hu : u ∈ subs tr) => Y.lkT hYl (List.mem_map.mpr ⟨u, hu, rfl⟩)
  have hback : rename (lk Bk) (rename (lk Tt) tr) = tr := rename_back tr fun u hu => (hlk u hu).2
  have hszT : (subs (rename (lk Tt) tr)).length ≤ 13 := by rw [subs_rename, List.length_map]; exact hsz
  have hhtT : ht (rename (lk Tt) tr) ≤ 3 := by rw [ht_rename]; exact hht
  have hopsT2 : ∀ u ∈ subs (rename (lk Tt) tr), u.op.cps.size ≤ 1000 ∧ startsQ u.op = false := fun u hu => by
    rw [subs_rename] at hu
    obtain ⟨u', hu', rfl⟩ := List.mem_map.mp hu
    rw [rename_op]
    exact ⟨hTk.size (Nat.le_trans (hop3 u' hu') (by decide)), (hlk u' hu').1⟩
  -- and back again
  refine x_if (wpAny_isTrue_BoolOp (wpAny_allTrue_Or_cons (wpAny_isTrue_Compare1 (Call_ (nm_K B33 g_renamed (cw_K (K := kf w.params) (h0 := h0) k_renamed (ar_cons (Call_ (nm_K B33 g_renamed (cw_K (K := kf w.params) (h0 := h0) k_renamed (ar_cons (nm_L G.ns e.2.2.1 (ar_cons (nm_L G.ns e.1 (ar_nil ⟨B33, wpAny_call ?_⟩)))))))))))))))
  refine renamed_spec tr (r₁.le (by omega)) B33 X33.it (by omega) X33.ob.d2 lo2 hTk fun h34 tk34 v34 i34 k34 => ?_
  have X34 := X33.non k34
  have B34 := k34.bs B33
  refine ar_cons (nm_L (G.non k34).ns e.2.1 (ar_nil ⟨B34, wpAny_call ?_⟩))
  refine renamed_spec (rename (lk Tt) tr) (r₁.le (by omega)) B34 i34 (by omega) X34.ob.d3 lo3 Y.kv fun h35 tk35 v35 i35 k35 => ?_
  rw [hback] at i35
  have X35 := X34.non k35
  have B35 := k35.bs B34
  have G35 := (G.non k34).non k35
  refine nm_L G35.ns e.2.2.1 (ne_tree_same (s := Sh s' h35 tk35) (by have := r₁.u; omega) i35 X35.it (wpAny_truthy_bool ?_))
  simp only [Bool.false_eq_true, if_false]
  refine wpAny_allTrue_Or_cons (wpAny_isTrue_Compare1 (Call_ (nm_K B35 g_names (cw_K (K := kf w.params) (h0 := h0) k_names (ar_cons (Call_ (nm_K B35 g_flat (cw_K (K := kf w.params) (h0 := h0) k_flat (ar_cons (Call_ (nm_K B35 g_renamed (cw_K (K := kf w.params) (h0 := h0) k_renamed (ar_cons (nm_L G35.ns e.2.2.1 (ar_cons (nm_L G35.ns e.1 (ar_nil ⟨B35, wpAny_call ?_⟩)))))))))))))))))
  refine renamed_spec tr (r₁.le (by omega)) B35 X35.it (by omega) X35.ob.d2 lo2 hTk fun h36 tk36 v36 i36 k36 => ?_
  have B36 := k36.bs B35
  refine ar_nil ⟨B36, wpAny_call ?_⟩
  refine flat_spec (n := 10) (r₁.le (by omega)) B36 i36 (by omega) fun h37 tk37 fa fvs hfa l37 rr37 k37 => ?_
  have B37 := k37.bs B36
  refine ar_nil ⟨B37, wpAny_call ?_⟩
  refine names_spec (n := 10) (r₁.le (by omega)) B37 l37 rr37 (by omega) (fun u hu => (hopsT2 u hu).1) fun h38 tk38 na nvs ss hna l38 sv38 hp38 _ k38 => ?_
  have hvo : varsOf (subs (rename (lk Tt) tr)) = [] := by
    unfold varsOf
    rw [List.map_eq_nil_iff, List.filter_eq_nil_iff]
    intro u hu
    unfold isVarT
    rw [(hopsT2 u hu).2, Bool.and_false]
    exact Bool.false_ne_true
  have hss : ss = [] := by
    rw [hvo] at hp38
    exact List.Perm.eq_nil hp38
  have hnv : nvs = [] := by
    rw [hss] at sv38
    cases sv38; rfl
  refine e_nil (s := s') fun h39 l39 k39 => ne_ls_nil r₁.units (l38.kx k39 fun h => h) l39 (wpAny_truthy_bool ?_)
  rw [hnv]
  simp only [List.isEmpty_nil, Bool.not_true, Bool.false_eq_true, if_false]
  refine wpAny_allTrue_Or_nil ?_
  simp only [Bool.false_eq_true, if_false]
  refine wpAny_execs_nil ?_
  have kk := ((k36.trans k37).trans k38).trans k39
  have X39 := X35.non kk
  have G39 := G35.non kk
  have B39 := X39.kk.bs B
  -- the bank
  refine x_ret (Call_ (nm_K B39 g_bright (cw_K (K := kf w.params) (h0 := h0) k_bright (ar_cons (nm_L G39.ns e.2.2.1 (ar_cons (nm_L G39.ns e.2.2.2.1 (ar_nil ⟨B39, wpAny_call ?_⟩))))))))
  refine bank_right (outer := [F.env]) (r₁.le (by omega)) B39 X39.it X39.l X39.rr (by omega) (by omega) hopsT (fun u hu => ops_rel _ (hopm u hu)) (Around.frames_deeper hfr) (fun e' he' => ?_) fun d h40 tk40 hk40 _ => hR' d h40 tk40 fun b o hb => hk40 b o (X39.kk.all b o hb) ?_
  · rw [List.mem_singleton.mp he']
    exact ⟨by show ScopeKind.function ≠ ScopeKind.module; decide, L, _, rfl, G39.ns, B.off_ge hL0⟩
  · intro hm
    obtain ⟨e', he', hf⟩ := List.mem_filterMap.mp hm
    rw [List.mem_singleton.mp he'] at hf
    have : L = b := Option.some.inj hf
    rw [← this, hL0] at hb; cases hb
end
end Mine

namespace Mine
theorem g_law {w : World} : nsIn (kf w.params) mainGlobals (Str.ofString "law") = some (some (.ref 278)) := by k_is
theorem allInt_of : ∀ {vs : List Value} {ns : List Int}, IntsAre vs ns → AllInt vs
  | _, _, .nil => fun v hv => by cases hv
  | _, _, .cons n t h => fun v hv => by
    rcases List.mem_cons.mp hv with rfl | hv
    · exact ⟨n, t, rfl⟩
    · exact allInt_of h v hv
end Mine
theorem PySem.Challenge.cw_pq0112_01_holds : PySem.Challenge.rw_pq0112_01.Holds := by
  refine Mine.head ?_
  intro d kwd hdef w s₀ s₁ mg mb G Y fa o pm cd doc dV kV ho hd hcd hD hmg hg args vals as hpre hlay hrd hwl hlo
  have KX : (Mine.kf w.params).In s₁.heap := kIn_of Y
  rw [defOf_name hdef] at hmg
  clear ho hd hcd hD
  refine Ground.open G ?_
  intro T B D TE TW
  clear G Y B D TE TW
  wrow_args hpre hlay hrd hwl hlo
  rename_i ns x1 x2 x3 x4 x5 y1 y2 a vs y3 hL ra w1 r0 hI hr hc1 hc2
  have hfa : fa = 278 := by
    have h1 := mg_of KX T.g Mine.g_law
    have h2 : some (Value.ref fa) = some (.ref 278) := hmg.symm.trans h1
    cases h2; rfl
  subst hfa
  have hl : vs.length = ns.length := hI.length
  have B : Mine.Bs (Mine.kf w.params) s₁.heap s₁.heap := ⟨KX, ⟨mg, mb, T.g, T.b, fun x hx => T.builtins x hx⟩, T.nolimit, fun _ _ e => e⟩
  refine wpAny_call (Mine.law_spec (s := s₁) (h := s₁.heap) (tk := s₁.toks) (vs := vs) ⟨rfl, by decide, by decide⟩ B hL (Mine.allInt_of hI) (by omega) rfl fun d' h' tk' hk => ?_)
  refine GoodW.toG ⟨.inl ⟨.bool true, .bool true, [], rfl, fun _ => rfl, .bool true, ?_, unshared_nil⟩, hk, rfl, hg⟩
  first | (with_unfolding_all rfl; done) | kernel_rfl | (trace_state; fail)
