import PyProof.Rows.All
import PyProof.AssignAttr
import PyProof.ListOps
import PyProof.DictWalks
import PyProof.WalksMore
import PyProof.Rows.ListDel
import PyProof.Rows.ExtendIn
import KE.LcTurns
import KE.KDictSum
import KE.KDictOf
import KE.KRevSl
import Wide.FinOn
import OpenK.AllK
import Wide.All
import Lean
import PySem.Challenge.RW_rr0084_02
set_option Elab.async false
set_option autoImplicit true
set_option linter.all false
set_option maxHeartbeats 4000000
namespace Mine
open PySem PySem.W PySem.Calls PyProof.Rows
noncomputable def stA (i : Nat) : Stmt := PySem.Challenge.pw_rr0084_02.main.body.getD i (.Pass default)
noncomputable def stM (i j : Nat) : Stmt := match stA i with
  | .ClassDef _ _ _ body _ _ _ _ _ _ _ => body.getD j (.Pass default)
  | _ => .Pass default
noncomputable def fdO (st : Stmt) (q : Str) (m : Value) (c : Addr) : FuncData := match st with
  | .FunctionDef n a b _ _ _ sc _ _ _ => { name := n, qualname := q, params := a, body := .stmts b, scope := sc, globals := 3, closure := [], defaults := Value.none, kwdefaults := Value.none, pyModule := m, code := Value.ref c }
  | _ => { name := q, qualname := q, params := default, body := .stmts [], scope := default, globals := 3, closure := [], defaults := Value.none, kwdefaults := Value.none, pyModule := m, code := Value.ref c }
noncomputable def fnO (st : Stmt) (q : Str) (m : Value) (c : Addr) : Obj := { cls := Value.type "function", data := Data.func (fdO st q m c) }
noncomputable def K2 (P : Params) : Frag :=
  [(3, { cls := Value.type "dict", data := Data.dict #[{ hash := PyData.keyHash P (Str.ofString "__name__"), key := Value.str (Str.ofString "__name__") 165, val := Value.str (Str.ofString "law_rr0084_02") 471 }, { hash := PyData.keyHash P (Str.ofString "__doc__"), key := Value.str (Str.ofString "__doc__") 166, val := Value.none }, { hash := PyData.keyHash P (Str.ofString "__package__"), key := Value.str (Str.ofString "__package__") 167, val := Value.none }, { hash := PyData.keyHash P (Str.ofString "__loader__"), key := Value.str (Str.ofString "__loader__") 168, val := Value.builtin "__main__.__loader__#opaque" }, { hash := PyData.keyHash P (Str.ofString "__spec__"), key := Value.str (Str.ofString "__spec__") 169, val := Value.none }, { hash := PyData.keyHash P (Str.ofString "__annotations__"), key := Value.str (Str.ofString "__annotations__") 170, val := Value.ref 6 }, { hash := PyData.keyHash P (Str.ofString "__builtins__"), key := Value.str (Str.ofString "__builtins__") 171, val := Value.ref 4 }, { hash := PyData.keyHash P (Str.ofString "__file__"), key := Value.str (Str.ofString "__file__") 173, val := Value.str (Str.ofString "/claim/cut.py") 172 }, { hash := PyData.keyHash P (Str.ofString "__cached__"), key := Value.str (Str.ofString "__cached__") 174, val := Value.none }, { hash := PyData.keyHash P (Str.ofString "_wall"), key := Value.str (Str.ofString "_wall") 193, val := Value.ref 21 }, { hash := PyData.keyHash P (Str.ofString "Counter"), key := Value.str (Str.ofString "Counter") 327, val := Value.ref 118 }, { hash := PyData.keyHash P (Str.ofString "Circuit"), key := Value.str (Str.ofString "Circuit") 470, val := Value.ref 228 }, { hash := PyData.keyHash P (Str.ofString "_law_draw"), key := Value.str (Str.ofString "_law_draw") 481, val := Value.ref 239 }, { hash := PyData.keyHash P (Str.ofString "_law_signed"), key := Value.str (Str.ofString "_law_signed") 490, val := Value.ref 246 }, { hash := PyData.keyHash P (Str.ofString "_law_gate"), key := Value.str (Str.ofString "_law_gate") 496, val := Value.ref 251 }, { hash := PyData.keyHash P (Str.ofString "_law_under"), key := Value.str (Str.ofString "_law_under") 502, val := Value.ref 256 }, { hash := PyData.keyHash P (Str.ofString "_law_column"), key := Value.str (Str.ofString "_law_column") 508, val := Value.ref 261 }, { hash := PyData.keyHash P (Str.ofString "_law_fixed"), key := Value.str (Str.ofString "_law_fixed") 521, val := Value.ref 268 }, { hash := PyData.keyHash P (Str.ofString "_law_all_gates"), key := Value.str (Str.ofString "_law_all_gates") 527, val := Value.ref 273 }, { hash := PyData.keyHash P (Str.ofString "law"), key := Value.str (Str.ofString "law") 533, val := Value.ref 278 }] 20 }),
   (34, { cls := Value.type "code", data := Data.fields #[Value.str (Str.ofString "__init__") 208, Value.str (Str.ofString "Counter.__init__") 209, Value.str (Str.ofString "/claim/cut.py") 210, Value.int 7 0, Value.int 3 0, Value.int 0 0, Value.int 0 0, Value.int 3 0, Value.ref 29, Value.bool true, Value.int 181 0, Value.ref 30, Value.none, Value.ref 31, Value.ref 32, Value.ref 33, Value.int 214 0, Value.int 7 0, Value.str (Str.ofString "/claim/cut.py") 215] }),
   (35, fnO (stM 2 0) (Str.ofString "Counter.__init__") (Value.str (Str.ofString "relfinder.counting") 194) 34),
   (39, { cls := Value.type "code", data := Data.fields #[Value.str (Str.ofString "below") 217, Value.str (Str.ofString "Counter.below") 218, Value.str (Str.ofString "/claim/cut.py") 219, Value.int 14 0, Value.int 2 0, Value.int 0 0, Value.int 0 0, Value.int 3 0, Value.ref 36, Value.bool true, Value.int 181 0, Value.ref 37, Value.none, Value.none, Value.none, Value.ref 38, Value.int 220 0, Value.int 14 0, Value.str (Str.ofString "/claim/cut.py") 221] }),
   (40, fnO (stM 2 1) (Str.ofString "Counter.below") (Value.str (Str.ofString "relfinder.counting") 194) 39),
   (46, { cls := Value.type "code", data := Data.fields #[Value.str (Str.ofString "support") 223, Value.str (Str.ofString "Counter.support") 224, Value.str (Str.ofString "/claim/cut.py") 225, Value.int 24 0, Value.int 2 0, Value.int 0 0, Value.int 0 0, Value.int 3 0, Value.ref 41, Value.bool true, Value.int 181 0, Value.ref 42, Value.none, Value.ref 43, Value.ref 44, Value.ref 45, Value.int 229 0, Value.int 24 0, Value.str (Str.ofString "/claim/cut.py") 230] }),
   (47, fnO (stM 2 2) (Str.ofString "Counter.support") (Value.str (Str.ofString "relfinder.counting") 194) 46),
   (53, { cls := Value.type "code", data := Data.fields #[Value.str (Str.ofString "gathered") 232, Value.str (Str.ofString "Counter.gathered") 233, Value.str (Str.ofString "/claim/cut.py") 234, Value.int 31 0, Value.int 2 0, Value.int 0 0, Value.int 0 0, Value.int 3 0, Value.ref 48, Value.bool true, Value.int 181 0, Value.ref 49, Value.none, Value.ref 50, Value.ref 51, Value.ref 52, Value.int 240 0, Value.int 31 0, Value.str (Str.ofString "/claim/cut.py") 241] }),
   (54, fnO (stM 2 3) (Str.ofString "Counter.gathered") (Value.str (Str.ofString "relfinder.counting") 194) 53),
   (60, { cls := Value.type "code", data := Data.fields #[Value.str (Str.ofString "turned") 243, Value.str (Str.ofString "Counter.turned") 244, Value.str (Str.ofString "/claim/cut.py") 245, Value.int 40 0, Value.int 3 0, Value.int 0 0, Value.int 0 0, Value.int 3 0, Value.ref 55, Value.bool true, Value.int 181 0, Value.ref 56, Value.none, Value.ref 57, Value.ref 58, Value.ref 59, Value.int 250 0, Value.int 40 0, Value.str (Str.ofString "/claim/cut.py") 251] }),
   (61, fnO (stM 2 4) (Str.ofString "Counter.turned") (Value.str (Str.ofString "relfinder.counting") 194) 60),
   (65, { cls := Value.type "code", data := Data.fields #[Value.str (Str.ofString "settled") 253, Value.str (Str.ofString "Counter.settled") 254, Value.str (Str.ofString "/claim/cut.py") 255, Value.int 44 0, Value.int 4 0, Value.int 0 0, Value.int 0 0, Value.int 3 0, Value.ref 62, Value.bool true, Value.int 181 0, Value.ref 63, Value.none, Value.none, Value.none, Value.ref 64, Value.int 256 0, Value.int 44 0, Value.str (Str.ofString "/claim/cut.py") 257] }),
   (66, fnO (stM 2 5) (Str.ofString "Counter.settled") (Value.str (Str.ofString "relfinder.counting") 194) 65),
   (117, { cls := Value.type "dict", data := Data.dict #[{ hash := PyData.keyHash P (Str.ofString "__module__"), key := Value.str (Str.ofString "__module__") 203, val := Value.str (Str.ofString "relfinder.counting") 194 }, { hash := PyData.keyHash P (Str.ofString "__firstlineno__"), key := Value.str (Str.ofString "__firstlineno__") 207, val := Value.int 5 206 }, { hash := PyData.keyHash P (Str.ofString "__init__"), key := Value.str (Str.ofString "__init__") 216, val := Value.ref 35 }, { hash := PyData.keyHash P (Str.ofString "below"), key := Value.str (Str.ofString "below") 222, val := Value.ref 40 }, { hash := PyData.keyHash P (Str.ofString "support"), key := Value.str (Str.ofString "support") 231, val := Value.ref 47 }, { hash := PyData.keyHash P (Str.ofString "gathered"), key := Value.str (Str.ofString "gathered") 242, val := Value.ref 54 }, { hash := PyData.keyHash P (Str.ofString "turned"), key := Value.str (Str.ofString "turned") 252, val := Value.ref 61 }, { hash := PyData.keyHash P (Str.ofString "settled"), key := Value.str (Str.ofString "settled") 258, val := Value.ref 66 }, { hash := PyData.keyHash P (Str.ofString "groups"), key := Value.str (Str.ofString "groups") 266, val := Value.ref 73 }, { hash := PyData.keyHash P (Str.ofString "pick"), key := Value.str (Str.ofString "pick") 274, val := Value.ref 80 }, { hash := PyData.keyHash P (Str.ofString "plan"), key := Value.str (Str.ofString "plan") 282, val := Value.ref 87 }, { hash := PyData.keyHash P (Str.ofString "is_ready"), key := Value.str (Str.ofString "is_ready") 290, val := Value.ref 94 }, { hash := PyData.keyHash P (Str.ofString "own"), key := Value.str (Str.ofString "own") 298, val := Value.ref 101 }, { hash := PyData.keyHash P (Str.ofString "combined"), key := Value.str (Str.ofString "combined") 306, val := Value.ref 108 }, { hash := PyData.keyHash P (Str.ofString "count"), key := Value.str (Str.ofString "count") 314, val := Value.ref 115 }, { hash := PyData.keyHash P (Str.ofString "__static_attributes__"), key := Value.str (Str.ofString "__static_attributes__") 320, val := Value.ref 116 }, { hash := PyData.keyHash P (Str.ofString "__dict__"), key := Value.str (Str.ofString "__dict__") 322, val := Value.ref 119 }, { hash := PyData.keyHash P (Str.ofString "__weakref__"), key := Value.str (Str.ofString "__weakref__") 324, val := Value.ref 120 }, { hash := PyData.keyHash P (Str.ofString "__doc__"), key := Value.str (Str.ofString "__doc__") 325, val := Value.none }] 4 }),
   (118, { cls := Value.type "type", data := Data.cls { name := Str.ofString "Counter", bases := [Value.type "object"], mro := [Value.ref 118, Value.type "object"], ns := 117, qualname := Str.ofString "Counter" }, slots := #[none, none, some (Value.str (Str.ofString "Counter") 196), some (Value.str (Str.ofString "Counter") 204), some (Value.builtin "object.__new__"), some (Value.bool true)] }),
   (135, { cls := Value.type "code", data := Data.fields #[Value.str (Str.ofString "__init__") 342, Value.str (Str.ofString "Circuit.__init__") 343, Value.str (Str.ofString "/claim/cut.py") 344, Value.int 74 0, Value.int 1 0, Value.int 0 0, Value.int 0 0, Value.int 3 0, Value.ref 130, Value.bool true, Value.int 181 0, Value.ref 131, Value.none, Value.ref 132, Value.ref 133, Value.ref 134, Value.int 346 0, Value.int 74 0, Value.str (Str.ofString "/claim/cut.py") 347] }),
   (136, fnO (stM 4 0) (Str.ofString "Circuit.__init__") (Value.str (Str.ofString "relfinder.circuit") 328) 135),
   (142, { cls := Value.type "code", data := Data.fields #[Value.str (Str.ofString "size") 349, Value.str (Str.ofString "Circuit.size") 350, Value.str (Str.ofString "/claim/cut.py") 351, Value.int 79 0, Value.int 1 0, Value.int 0 0, Value.int 0 0, Value.int 3 0, Value.ref 137, Value.bool true, Value.int 181 0, Value.ref 138, Value.none, Value.ref 139, Value.ref 140, Value.ref 141, Value.int 353 0, Value.int 79 0, Value.str (Str.ofString "/claim/cut.py") 354] }),
   (143, fnO (stM 4 1) (Str.ofString "Circuit.size") (Value.str (Str.ofString "relfinder.circuit") 328) 142),
   (149, { cls := Value.type "code", data := Data.fields #[Value.str (Str.ofString "kind") 356, Value.str (Str.ofString "Circuit.kind") 357, Value.str (Str.ofString "/claim/cut.py") 358, Value.int 82 0, Value.int 2 0, Value.int 0 0, Value.int 0 0, Value.int 3 0, Value.ref 144, Value.bool true, Value.int 181 0, Value.ref 145, Value.none, Value.ref 146, Value.ref 147, Value.ref 148, Value.int 361 0, Value.int 82 0, Value.str (Str.ofString "/claim/cut.py") 362] }),
   (150, fnO (stM 4 2) (Str.ofString "Circuit.kind") (Value.str (Str.ofString "relfinder.circuit") 328) 149),
   (156, { cls := Value.type "code", data := Data.fields #[Value.str (Str.ofString "parts") 364, Value.str (Str.ofString "Circuit.parts") 365, Value.str (Str.ofString "/claim/cut.py") 366, Value.int 85 0, Value.int 2 0, Value.int 0 0, Value.int 0 0, Value.int 3 0, Value.ref 151, Value.bool true, Value.int 181 0, Value.ref 152, Value.none, Value.ref 153, Value.ref 154, Value.ref 155, Value.int 369 0, Value.int 85 0, Value.str (Str.ofString "/claim/cut.py") 370] }),
   (157, fnO (stM 4 3) (Str.ofString "Circuit.parts") (Value.str (Str.ofString "relfinder.circuit") 328) 156),
   (163, { cls := Value.type "code", data := Data.fields #[Value.str (Str.ofString "new_gate") 372, Value.str (Str.ofString "Circuit.new_gate") 373, Value.str (Str.ofString "/claim/cut.py") 374, Value.int 88 0, Value.int 3 0, Value.int 0 0, Value.int 0 0, Value.int 3 0, Value.ref 158, Value.bool true, Value.int 181 0, Value.ref 159, Value.none, Value.ref 160, Value.ref 161, Value.ref 162, Value.int 378 0, Value.int 88 0, Value.str (Str.ofString "/claim/cut.py") 379] }),
   (164, fnO (stM 4 4) (Str.ofString "Circuit.new_gate") (Value.str (Str.ofString "relfinder.circuit") 328) 163),
   (170, { cls := Value.type "code", data := Data.fields #[Value.str (Str.ofString "new_input") 381, Value.str (Str.ofString "Circuit.new_input") 382, Value.str (Str.ofString "/claim/cut.py") 383, Value.int 93 0, Value.int 1 0, Value.int 0 0, Value.int 0 0, Value.int 3 0, Value.ref 165, Value.bool true, Value.int 181 0, Value.ref 166, Value.none, Value.ref 167, Value.ref 168, Value.ref 169, Value.int 385 0, Value.int 93 0, Value.str (Str.ofString "/claim/cut.py") 386] }),
   (171, fnO (stM 4 5) (Str.ofString "Circuit.new_input") (Value.str (Str.ofString "relfinder.circuit") 328) 170),
   (177, { cls := Value.type "code", data := Data.fields #[Value.str (Str.ofString "all_of") 388, Value.str (Str.ofString "Circuit.all_of") 389, Value.str (Str.ofString "/claim/cut.py") 390, Value.int 96 0, Value.int 2 0, Value.int 0 0, Value.int 0 0, Value.int 3 0, Value.ref 172, Value.bool true, Value.int 181 0, Value.ref 173, Value.none, Value.ref 174, Value.ref 175, Value.ref 176, Value.int 396 0, Value.int 96 0, Value.str (Str.ofString "/claim/cut.py") 397] }),
   (178, fnO (stM 4 6) (Str.ofString "Circuit.all_of") (Value.str (Str.ofString "relfinder.circuit") 328) 177),
   (182, { cls := Value.type "code", data := Data.fields #[Value.str (Str.ofString "any_of") 399, Value.str (Str.ofString "Circuit.any_of") 400, Value.str (Str.ofString "/claim/cut.py") 401, Value.int 110 0, Value.int 2 0, Value.int 0 0, Value.int 0 0, Value.int 3 0, Value.ref 179, Value.bool true, Value.int 181 0, Value.ref 180, Value.none, Value.none, Value.none, Value.ref 181, Value.int 402 0, Value.int 110 0, Value.str (Str.ofString "/claim/cut.py") 403] }),
   (183, fnO (stM 4 7) (Str.ofString "Circuit.any_of") (Value.str (Str.ofString "relfinder.circuit") 328) 182),
   (189, { cls := Value.type "code", data := Data.fields #[Value.str (Str.ofString "both") 405, Value.str (Str.ofString "Circuit.both") 406, Value.str (Str.ofString "/claim/cut.py") 407, Value.int 113 0, Value.int 3 0, Value.int 0 0, Value.int 0 0, Value.int 3 0, Value.ref 184, Value.bool true, Value.int 181 0, Value.ref 185, Value.none, Value.ref 186, Value.ref 187, Value.ref 188, Value.int 411 0, Value.int 113 0, Value.str (Str.ofString "/claim/cut.py") 412] }),
   (190, fnO (stM 4 8) (Str.ofString "Circuit.both") (Value.str (Str.ofString "relfinder.circuit") 328) 189),
   (203, { cls := Value.type "code", data := Data.fields #[Value.str (Str.ofString "implies") 423, Value.str (Str.ofString "Circuit.implies") 424, Value.str (Str.ofString "/claim/cut.py") 425, Value.int 119 0, Value.int 3 0, Value.int 0 0, Value.int 0 0, Value.int 3 0, Value.ref 198, Value.bool true, Value.int 181 0, Value.ref 199, Value.none, Value.ref 200, Value.ref 201, Value.ref 202, Value.int 429 0, Value.int 119 0, Value.str (Str.ofString "/claim/cut.py") 430] }),
   (204, fnO (stM 4 10) (Str.ofString "Circuit.implies") (Value.str (Str.ofString "relfinder.circuit") 328) 203),
   (210, { cls := Value.type "code", data := Data.fields #[Value.str (Str.ofString "iff") 432, Value.str (Str.ofString "Circuit.iff") 433, Value.str (Str.ofString "/claim/cut.py") 434, Value.int 122 0, Value.int 3 0, Value.int 0 0, Value.int 0 0, Value.int 3 0, Value.ref 205, Value.bool true, Value.int 181 0, Value.ref 206, Value.none, Value.ref 207, Value.ref 208, Value.ref 209, Value.int 438 0, Value.int 122 0, Value.str (Str.ofString "/claim/cut.py") 439] }),
   (211, fnO (stM 4 11) (Str.ofString "Circuit.iff") (Value.str (Str.ofString "relfinder.circuit") 328) 210),
   (217, { cls := Value.type "code", data := Data.fields #[Value.str (Str.ofString "unlike") 441, Value.str (Str.ofString "Circuit.unlike") 442, Value.str (Str.ofString "/claim/cut.py") 443, Value.int 125 0, Value.int 3 0, Value.int 0 0, Value.int 0 0, Value.int 3 0, Value.ref 212, Value.bool true, Value.int 181 0, Value.ref 213, Value.none, Value.ref 214, Value.ref 215, Value.ref 216, Value.int 447 0, Value.int 125 0, Value.str (Str.ofString "/claim/cut.py") 448] }),
   (218, fnO (stM 4 12) (Str.ofString "Circuit.unlike") (Value.str (Str.ofString "relfinder.circuit") 328) 217),
   (224, { cls := Value.type "code", data := Data.fields #[Value.str (Str.ofString "choose") 450, Value.str (Str.ofString "Circuit.choose") 451, Value.str (Str.ofString "/claim/cut.py") 452, Value.int 128 0, Value.int 4 0, Value.int 0 0, Value.int 0 0, Value.int 3 0, Value.ref 219, Value.bool true, Value.int 181 0, Value.ref 220, Value.none, Value.ref 221, Value.ref 222, Value.ref 223, Value.int 457 0, Value.int 128 0, Value.str (Str.ofString "/claim/cut.py") 458] }),
   (225, fnO (stM 4 13) (Str.ofString "Circuit.choose") (Value.str (Str.ofString "relfinder.circuit") 328) 224),
   (227, { cls := Value.type "dict", data := Data.dict #[{ hash := PyData.keyHash P (Str.ofString "__module__"), key := Value.str (Str.ofString "__module__") 337, val := Value.str (Str.ofString "relfinder.circuit") 328 }, { hash := PyData.keyHash P (Str.ofString "__firstlineno__"), key := Value.str (Str.ofString "__firstlineno__") 341, val := Value.int 72 340 }, { hash := PyData.keyHash P (Str.ofString "__init__"), key := Value.str (Str.ofString "__init__") 348, val := Value.ref 136 }, { hash := PyData.keyHash P (Str.ofString "size"), key := Value.str (Str.ofString "size") 355, val := Value.ref 143 }, { hash := PyData.keyHash P (Str.ofString "kind"), key := Value.str (Str.ofString "kind") 363, val := Value.ref 150 }, { hash := PyData.keyHash P (Str.ofString "parts"), key := Value.str (Str.ofString "parts") 371, val := Value.ref 157 }, { hash := PyData.keyHash P (Str.ofString "new_gate"), key := Value.str (Str.ofString "new_gate") 380, val := Value.ref 164 }, { hash := PyData.keyHash P (Str.ofString "new_input"), key := Value.str (Str.ofString "new_input") 387, val := Value.ref 171 }, { hash := PyData.keyHash P (Str.ofString "all_of"), key := Value.str (Str.ofString "all_of") 398, val := Value.ref 178 }, { hash := PyData.keyHash P (Str.ofString "any_of"), key := Value.str (Str.ofString "any_of") 404, val := Value.ref 183 }, { hash := PyData.keyHash P (Str.ofString "both"), key := Value.str (Str.ofString "both") 413, val := Value.ref 190 }, { hash := PyData.keyHash P (Str.ofString "either"), key := Value.str (Str.ofString "either") 422, val := Value.ref 197 }, { hash := PyData.keyHash P (Str.ofString "implies"), key := Value.str (Str.ofString "implies") 431, val := Value.ref 204 }, { hash := PyData.keyHash P (Str.ofString "iff"), key := Value.str (Str.ofString "iff") 440, val := Value.ref 211 }, { hash := PyData.keyHash P (Str.ofString "unlike"), key := Value.str (Str.ofString "unlike") 449, val := Value.ref 218 }, { hash := PyData.keyHash P (Str.ofString "choose"), key := Value.str (Str.ofString "choose") 459, val := Value.ref 225 }, { hash := PyData.keyHash P (Str.ofString "__static_attributes__"), key := Value.str (Str.ofString "__static_attributes__") 463, val := Value.ref 226 }, { hash := PyData.keyHash P (Str.ofString "__dict__"), key := Value.str (Str.ofString "__dict__") 465, val := Value.ref 229 }, { hash := PyData.keyHash P (Str.ofString "__weakref__"), key := Value.str (Str.ofString "__weakref__") 467, val := Value.ref 230 }, { hash := PyData.keyHash P (Str.ofString "__doc__"), key := Value.str (Str.ofString "__doc__") 468, val := Value.none }] 4 }),
   (228, { cls := Value.type "type", data := Data.cls { name := Str.ofString "Circuit", bases := [Value.type "object"], mro := [Value.ref 228, Value.type "object"], ns := 227, qualname := Str.ofString "Circuit" }, slots := #[none, none, some (Value.str (Str.ofString "Circuit") 330), some (Value.str (Str.ofString "Circuit") 338), some (Value.builtin "object.__new__"), some (Value.bool true)] }),
   (238, { cls := Value.type "code", data := Data.fields #[Value.str (Str.ofString "_law_draw") 473, Value.str (Str.ofString "_law_draw") 474, Value.str (Str.ofString "/claim/cut.py") 475, Value.int 131 0, Value.int 2 0, Value.int 0 0, Value.int 0 0, Value.int 3 0, Value.ref 233, Value.bool true, Value.int 181 0, Value.ref 234, Value.none, Value.ref 235, Value.ref 236, Value.ref 237, Value.int 479 0, Value.int 131 0, Value.str (Str.ofString "/claim/cut.py") 480] }),
   (239, fnO (stA 6) (Str.ofString "_law_draw") (Value.str (Str.ofString "law_rr0084_02") 471) 238),
   (245, { cls := Value.type "code", data := Data.fields #[Value.str (Str.ofString "_law_signed") 482, Value.str (Str.ofString "_law_signed") 483, Value.str (Str.ofString "/claim/cut.py") 484, Value.int 137 0, Value.int 2 0, Value.int 0 0, Value.int 0 0, Value.int 3 0, Value.ref 240, Value.bool true, Value.int 181 0, Value.ref 241, Value.none, Value.ref 242, Value.ref 243, Value.ref 244, Value.int 488 0, Value.int 137 0, Value.str (Str.ofString "/claim/cut.py") 489] }),
   (246, fnO (stA 7) (Str.ofString "_law_signed") (Value.str (Str.ofString "law_rr0084_02") 471) 245),
   (250, { cls := Value.type "code", data := Data.fields #[Value.str (Str.ofString "_law_gate") 491, Value.str (Str.ofString "_law_gate") 492, Value.str (Str.ofString "/claim/cut.py") 493, Value.int 140 0, Value.int 3 0, Value.int 0 0, Value.int 0 0, Value.int 3 0, Value.ref 247, Value.bool true, Value.int 181 0, Value.ref 248, Value.none, Value.none, Value.none, Value.ref 249, Value.int 494 0, Value.int 140 0, Value.str (Str.ofString "/claim/cut.py") 495] }),
   (251, fnO (stA 8) (Str.ofString "_law_gate") (Value.str (Str.ofString "law_rr0084_02") 471) 250),
   (255, { cls := Value.type "code", data := Data.fields #[Value.str (Str.ofString "_law_under") 497, Value.str (Str.ofString "_law_under") 498, Value.str (Str.ofString "/claim/cut.py") 499, Value.int 148 0, Value.int 2 0, Value.int 0 0, Value.int 0 0, Value.int 3 0, Value.ref 252, Value.bool true, Value.int 181 0, Value.ref 253, Value.none, Value.none, Value.none, Value.ref 254, Value.int 500 0, Value.int 148 0, Value.str (Str.ofString "/claim/cut.py") 501] }),
   (256, fnO (stA 9) (Str.ofString "_law_under") (Value.str (Str.ofString "law_rr0084_02") 471) 255),
   (260, { cls := Value.type "code", data := Data.fields #[Value.str (Str.ofString "_law_column") 503, Value.str (Str.ofString "_law_column") 504, Value.str (Str.ofString "/claim/cut.py") 505, Value.int 156 0, Value.int 3 0, Value.int 0 0, Value.int 0 0, Value.int 3 0, Value.ref 257, Value.bool true, Value.int 181 0, Value.ref 258, Value.none, Value.none, Value.none, Value.ref 259, Value.int 506 0, Value.int 156 0, Value.str (Str.ofString "/claim/cut.py") 507] }),
   (261, fnO (stA 10) (Str.ofString "_law_column") (Value.str (Str.ofString "law_rr0084_02") 471) 260),
   (267, { cls := Value.type "code", data := Data.fields #[Value.str (Str.ofString "_law_fixed") 509, Value.str (Str.ofString "_law_fixed") 510, Value.str (Str.ofString "/claim/cut.py") 511, Value.int 168 0, Value.int 4 0, Value.int 0 0, Value.int 0 0, Value.int 3 0, Value.ref 262, Value.bool true, Value.int 181 0, Value.ref 263, Value.none, Value.ref 264, Value.ref 265, Value.ref 266, Value.int 519 0, Value.int 168 0, Value.str (Str.ofString "/claim/cut.py") 520] }),
   (268, fnO (stA 11) (Str.ofString "_law_fixed") (Value.str (Str.ofString "law_rr0084_02") 471) 267),
   (272, { cls := Value.type "code", data := Data.fields #[Value.str (Str.ofString "_law_all_gates") 522, Value.str (Str.ofString "_law_all_gates") 523, Value.str (Str.ofString "/claim/cut.py") 524, Value.int 174 0, Value.int 2 0, Value.int 0 0, Value.int 0 0, Value.int 3 0, Value.ref 269, Value.bool true, Value.int 181 0, Value.ref 270, Value.none, Value.none, Value.none, Value.ref 271, Value.int 525 0, Value.int 174 0, Value.str (Str.ofString "/claim/cut.py") 526] }),
   (273, fnO (stA 12) (Str.ofString "_law_all_gates") (Value.str (Str.ofString "law_rr0084_02") 471) 272),
   (277, { cls := Value.type "code", data := Data.fields #[Value.str (Str.ofString "law") 528, Value.str (Str.ofString "law") 529, Value.str (Str.ofString "/claim/cut.py") 530, Value.int 176 0, Value.int 1 0, Value.int 0 0, Value.int 0 0, Value.int 3 0, Value.ref 274, Value.bool true, Value.int 181 0, Value.ref 275, Value.none, Value.none, Value.none, Value.ref 276, Value.int 531 0, Value.int 176 0, Value.str (Str.ofString "/claim/cut.py") 532] }),
   (278, fnO (stA 13) (Str.ofString "law") (Value.str (Str.ofString "law_rr0084_02") 471) 277)]
noncomputable def as2 : List Addr := [3, 34, 35, 39, 40, 46, 47, 53, 54, 60, 61, 65, 66, 117, 118, 135, 136, 142, 143, 149, 150, 156, 157, 163, 164, 170, 171, 177, 178, 182, 183, 189, 190, 203, 204, 210, 211, 217, 218, 224, 225, 227, 228, 238, 239, 245, 246, 250, 251, 255, 256, 260, 261, 267, 268, 272, 273, 277, 278]
noncomputable def view2 : Program := { PySem.Challenge.pw_rr0084_02 with main := { PySem.Challenge.pw_rr0084_02.main with body := [0, 2, 4, 6, 7, 8, 9, 10, 11, 12, 13].map stA } }
theorem as2_ok (P : Params) : as2 = (K2 P).map (·.1) := rfl
noncomputable def H2 : Hook := kHook K2 as2 as2_ok
set_option maxRecDepth 100000
set_option maxHeartbeats 0
theorem left2 : LeftO PySem.Challenge.rw_rr0084_02.row.prog view2 [] (fun s => xlAt view2 [] s && recOk (RowW.records PySem.Challenge.rw_rr0084_02.row.toRowW) s) (Hook.obs H2) (Hook.val H2) 3198 true :=
  fun w => by kernel_rfl
end Mine
namespace Mine
open PySem PySem.W PyProof.Rows

/-! the values of the abstract machine -/
inductive V where
  | d (x : PyData)
  | h (n : Nat)
  | rng (a b : Int)
  | ol (xs : List PyData)
  | od (kvs : List (Int × PyData))
  | rl (xs : List PyData)
  | rd (kvs : List (Int × PyData))
  | circ (k p m : Nat)
  | ctr (k p m : Nat) (inp : List PyData) (kn pl su : Nat)

inductive O where
  | list (xs : List PyData)
  | di (kvs : List (Int × PyData))
  | ds (kvs : List (Str × PyData))
  | dt (kvs : List (List Int × Int))

noncomputable def dpack (kvs : List (Int × PyData)) : PyData := .dict (kvs.map fun p => (.int p.1, p.2))

/-- heaps as maps -/
noncomputable def Le (B h : Heap) : Prop := ∀ a o, B.get? a = some o → h.get? a = some o
theorem Le.refl (h : Heap) : Le h h := fun _ _ e => e
theorem Le.trans {a b c : Heap} (x : Le a b) (y : Le b c) : Le a c := fun i o e => y i o (x i o e)

noncomputable def mask (p : Addr → Bool) (h : Heap) : Heap := ⟨h.objs.mapIdx fun i o => if p i then o else { o with data := .freed }, h.life⟩
theorem get?_mask (p : Addr → Bool) (h : Heap) (a : Addr) : (mask p h).get? a = if p a then h.get? a else none := by
  unfold mask Heap.get?
  simp only [Array.getElem?_mapIdx]
  cases e : h.objs[a]? with
  | none => simp
  | some o =>
    by_cases hp : p a = true
    · simp [hp]
    · simp [hp]

/-- B with one object more -/
theorem ext_B {B h : Heap} (x : Le B h) {a : Addr} {o : Obj} (ha : h.get? a = some o) :
    ∃ B', Le B B' ∧ Le B' h ∧ B'.get? a = some o ∧ ∀ b, b ≠ a → B'.get? b = B.get? b := by
  refine ⟨mask (fun b => (B.get? b).isSome || b == a) h, ?_, ?_, ?_, ?_⟩
  · intro b o' e
    rw [get?_mask, e]; simpa using x b o' e
  · intro b o' e
    rw [get?_mask] at e
    split at e
    · exact e
    · cases e
  · rw [get?_mask]; simpa using ha
  · intro b hb
    rw [get?_mask]
    cases e : B.get? b with
    | none => simp [hb]
    | some o' => simpa using x b o' e

section
variable (prog : Program) (w : World)

mutual
inductive Rep (B : Heap) : Value → PyData → Prop
  | none : Rep B .none .none
  | bool (b) : Rep B (.bool b) (.bool b)
  | int (i t) : Rep B (.int i t) (.int i)
  | str (x t) : Rep B (.str x t) (.str x)
  | list {a vs xs} : B.PlainList a vs → RepAll B vs.toList xs → Rep B (.ref a) (.list xs)
  | tuple {a vs xs} : IsTup B a vs → RepAll B vs.toList xs → Rep B (.ref a) (.tuple xs)
  | dict {a kvs xs} : B.DictOf (intKind prog w) a kvs → RepKv B kvs xs → Rep B (.ref a) (.dict xs)
inductive RepAll (B : Heap) : List Value → List PyData → Prop
  | nil : RepAll B [] []
  | cons {v vs d ds} : Rep B v d → RepAll B vs ds → RepAll B (v :: vs) (d :: ds)
inductive RepKv (B : Heap) : List (Int × Value) → List (PyData × PyData) → Prop
  | nil : RepKv B [] []
  | cons {k v vs d ds} : Rep B v d → RepKv B vs ds → RepKv B ((k, v) :: vs) ((.int k, d) :: ds)
end
end

section
variable {prog : Program} {w : World}

theorem isTup_mono {B B' : Heap} (l : Le B B') {a vs} (x : IsTup B a vs) : IsTup B' a vs :=
  let ⟨o, ho, r⟩ := x; ⟨o, l _ _ ho, r⟩
theorem plain_mono {B B' : Heap} (l : Le B B') {a vs} (x : B.PlainList a vs) : B'.PlainList a vs :=
  let ⟨n, ho⟩ := x; ⟨n, l _ _ ho⟩

theorem Rep.mono {B B' : Heap} (l : Le B B') {v : Value} {d : PyData} (h : Rep prog w B v d) : Rep prog w B' v d :=
  Rep.rec (motive_1 := fun v d _ => Rep prog w B' v d) (motive_2 := fun v d _ => RepAll prog w B' v d) (motive_3 := fun v d _ => RepKv prog w B' v d) .none .bool .int .str (fun x _ i => .list (plain_mono l x) i) (fun x _ i => .tuple (isTup_mono l x) i) (fun x _ i => .dict (x.keep l) i) .nil (fun _ _ i j => .cons i j) .nil (fun _ _ i j => .cons i j) h
theorem RepAll.mono {B B' : Heap} (l : Le B B') {v : List Value} {d : List PyData} (h : RepAll prog w B v d) : RepAll prog w B' v d :=
  RepAll.rec (motive_1 := fun v d _ => Rep prog w B' v d) (motive_2 := fun v d _ => RepAll prog w B' v d) (motive_3 := fun v d _ => RepKv prog w B' v d) .none .bool .int .str (fun x _ i => .list (plain_mono l x) i) (fun x _ i => .tuple (isTup_mono l x) i) (fun x _ i => .dict (x.keep l) i) .nil (fun _ _ i j => .cons i j) .nil (fun _ _ i j => .cons i j) h
theorem RepKv.mono {B B' : Heap} (l : Le B B') {v : List (Int × Value)} {d : List (PyData × PyData)} (h : RepKv prog w B v d) : RepKv prog w B' v d :=
  RepKv.rec (motive_1 := fun v d _ => Rep prog w B' v d) (motive_2 := fun v d _ => RepAll prog w B' v d) (motive_3 := fun v d _ => RepKv prog w B' v d) .none .bool .int .str (fun x _ i => .list (plain_mono l x) i) (fun x _ i => .tuple (isTup_mono l x) i) (fun x _ i => .dict (x.keep l) i) .nil (fun _ _ i j => .cons i j) .nil (fun _ _ i j => .cons i j) h
theorem rep_list {B : Heap} {v : Value} {xs : List PyData} (r : Rep prog w B v (.list xs)) : ∃ a vs, v = .ref a ∧ B.PlainList a vs ∧ RepAll prog w B vs.toList xs := by
  cases r; exact ⟨_, _, rfl, by assumption, by assumption⟩
theorem rep_tuple {B : Heap} {v : Value} {xs : List PyData} (r : Rep prog w B v (.tuple xs)) : ∃ a vs, v = .ref a ∧ IsTup B a vs ∧ RepAll prog w B vs.toList xs := by
  cases r; exact ⟨_, _, rfl, by assumption, by assumption⟩
theorem rep_dict {B : Heap} {v : Value} {xs : List (PyData × PyData)} (r : Rep prog w B v (.dict xs)) : ∃ a kvs, v = .ref a ∧ B.DictOf (intKind prog w) a kvs ∧ RepKv prog w B kvs xs := by
  cases r; exact ⟨_, _, rfl, by assumption, by assumption⟩
theorem rep_pair {B : Heap} {v : Value} {x y : PyData} (r : Rep prog w B v (.tuple [x, y])) : ∃ a v1 v2, v = .ref a ∧ IsTup B a #[v1, v2] ∧ Rep prog w B v1 x ∧ Rep prog w B v2 y := by
  obtain ⟨a, vs, rfl, ht, hr⟩ := rep_tuple r
  obtain ⟨vs⟩ := vs
  cases hr with | cons r1 hr =>
  cases hr with | cons r2 hr =>
  cases hr
  exact ⟨_, _, _, rfl, ht, r1, r2⟩
theorem wpAny_cps {α : Type} {M : Model} {A : Around} {t : Sem α} {Q : α → Shared → Prop} {E : Value → Shared → Prop} {s : Shared} (h : ∀ Q', (∀ a s, Q a s → Q' a s) → wpAny M A t Q' E s) : wpAny M A t Q E s := h Q fun _ _ q => q
theorem codeAny_cps {M : Model} {A : Around} {c : Code} {Q : Result → Shared → Prop} {s : Shared} (h : ∀ Q' : Result → Shared → Prop, (∀ r s, Q r s → Q' r s) → codeAny M A c Q' s) : codeAny M A c Q s := h Q fun _ _ q => q
theorem rep_str {B : Heap} {v : Value} {x : Str} (r : Rep prog w B v (.str x)) : ∃ t, v = .str x t := by cases r; exact ⟨_, rfl⟩
theorem rep_int {B : Heap} {v : Value} {i : Int} (r : Rep prog w B v (.int i)) : ∃ t, v = .int i t := by cases r; exact ⟨_, rfl⟩
theorem RepAll.length {B : Heap} {vs ds} (x : RepAll prog w B vs ds) : vs.length = ds.length := by
  induction vs generalizing ds with
  | nil => cases x; rfl
  | cons v vs ih => cases x with | cons _ r => simp [ih r]
theorem RepAll.get {B : Heap} {vs ds} (x : RepAll prog w B vs ds) {i : Nat} {d} (h : ds[i]? = some d) : ∃ v, vs[i]? = some v ∧ Rep prog w B v d := by
  induction vs generalizing ds i with
  | nil => cases x; simp at h
  | cons v vs ih =>
    cases x with
    | cons q r =>
      cases i with
      | zero => simp at h; subst h; exact ⟨v, rfl, q⟩
      | succ i => simpa using ih r (by simpa using h)
theorem RepAll.append {B : Heap} {vs ds us es} (x : RepAll prog w B vs ds) (y : RepAll prog w B us es) : RepAll prog w B (vs ++ us) (ds ++ es) := by
  induction vs generalizing ds with
  | nil => cases x; exact y
  | cons v vs ih => cases x with | cons q r => exact .cons q (ih r)
theorem RepAll.snoc {B : Heap} {vs ds v d} (x : RepAll prog w B vs ds) (y : Rep prog w B v d) : RepAll prog w B (vs ++ [v]) (ds ++ [d]) := x.append (.cons y .nil)
theorem RepAll.take {B : Heap} {vs ds} (x : RepAll prog w B vs ds) (n : Nat) : RepAll prog w B (vs.take n) (ds.take n) := by
  induction vs generalizing ds n with
  | nil => cases x; simp; exact .nil
  | cons v vs ih =>
    cases x with
    | cons q r =>
      cases n with
      | zero => simp; exact .nil
      | succ n => simp; exact .cons q (ih r n)
theorem RepAll.drop {B : Heap} {vs ds} (x : RepAll prog w B vs ds) (n : Nat) : RepAll prog w B (vs.drop n) (ds.drop n) := by
  induction vs generalizing ds n with
  | nil => cases x; simp; exact .nil
  | cons v vs ih =>
    cases x with
    | cons q r =>
      cases n with
      | zero => simp; exact .cons q r
      | succ n => simp; exact ih r n
/-- a dictionary's entries can be read -/
noncomputable def RdKv (prog : Program) (w : World) (B : Heap) (v : List (Int × Value)) (d : List (PyData × PyData)) : Prop := ∀ es : List DictEntry, Pairs (intKind prog w) es v → ∃ as bs, ReadsAll B (es.map (·.key)) (d.map (·.1)) as ∧ ReadsAll B (es.map (·.val)) (d.map (·.2)) bs
theorem rd_list {B : Heap} {a : Addr} {vs : Array Value} {xs : List PyData} (x : B.PlainList a vs) (r : ∃ as, ReadsAll B vs.toList xs as) : ∃ as, Reads B (.ref a) (.list xs) as :=
  let ⟨_, ho⟩ := x; let ⟨_, r⟩ := r; ⟨_, .list ho rfl rfl r⟩
theorem rd_tup {B : Heap} {a : Addr} {vs : Array Value} {xs : List PyData} (x : IsTup B a vs) (r : ∃ as, ReadsAll B vs.toList xs as) : ∃ as, Reads B (.ref a) (.tuple xs) as :=
  let ⟨_, ho, hc, _, hd⟩ := x; let ⟨_, r⟩ := r; ⟨_, .tuple ho hc hd r⟩
theorem rd_dict {B : Heap} {a : Addr} {kvs : List (Int × Value)} {xs : List (PyData × PyData)} (x : B.DictOf (intKind prog w) a kvs) (r : RdKv prog w B kvs xs) : ∃ as, Reads B (.ref a) (.dict xs) as := by
  obtain ⟨o, es, ep, ho, hx, hd, hk, hp, hn⟩ := x
  obtain ⟨as, bs, h1, h2⟩ := r _ hp
  exact ⟨_, .dict ho hx.1 hd h1 h2⟩
theorem rd_cons {B : Heap} {v : Value} {vs : List Value} {d : PyData} {ds : List PyData} (x : ∃ as, Reads B v d as) (r : ∃ as, ReadsAll B vs ds as) : ∃ as, ReadsAll B (v :: vs) (d :: ds) as :=
  let ⟨_, x⟩ := x; let ⟨_, r⟩ := r; ⟨_, .cons x r⟩
theorem rd_kv {B : Heap} {k : Int} {vv : Value} {vs : List (Int × Value)} {d : PyData} {ds : List (PyData × PyData)} (x : ∃ as, Reads B vv d as) (r : RdKv prog w B vs ds) : RdKv prog w B ((k, vv) :: vs) ((.int k, d) :: ds) := by
  intro es hp
  cases hp with
  | cons h1 h2 h3 =>
    obtain ⟨as, x⟩ := x
    obtain ⟨bs, cs, r1, r2⟩ := r _ h3
    obtain ⟨t, ht⟩ := Value.isInt_shape h1
    have a1 := Reads.int (h := B) k t
    rw [show Value.int k t = _ from ht.symm] at a1
    rw [show vv = _ from h2.symm] at x
    exact ⟨_, _, .cons a1 r1, .cons x r2⟩
theorem Rep.reads {B : Heap} {v : Value} {d : PyData} (h : Rep prog w B v d) : ∃ as, Reads B v d as :=
  Rep.rec (motive_1 := fun v d _ => ∃ as, Reads B v d as) (motive_2 := fun v d _ => ∃ as, ReadsAll B v d as) (motive_3 := fun v d _ => RdKv prog w B v d) ⟨_, .none⟩ (fun b => ⟨_, .bool b⟩) (fun i t => ⟨_, .int i t⟩) (fun x t => ⟨_, .str x t⟩) (fun x _ r => rd_list x r) (fun x _ r => rd_tup x r) (fun x _ r => rd_dict x r) ⟨_, .nil⟩ (fun _ _ x r => rd_cons x r) (fun es hp => by cases hp; exact ⟨_, _, .nil, .nil⟩) (fun _ _ x r => rd_kv x r) h
theorem RepAll.reads {B : Heap} {v : List Value} {d : List PyData} (h : RepAll prog w B v d) : ∃ as, ReadsAll B v d as :=
  RepAll.rec (motive_1 := fun v d _ => ∃ as, Reads B v d as) (motive_2 := fun v d _ => ∃ as, ReadsAll B v d as) (motive_3 := fun v d _ => RdKv prog w B v d) ⟨_, .none⟩ (fun b => ⟨_, .bool b⟩) (fun i t => ⟨_, .int i t⟩) (fun x t => ⟨_, .str x t⟩) (fun x _ r => rd_list x r) (fun x _ r => rd_tup x r) (fun x _ r => rd_dict x r) ⟨_, .nil⟩ (fun _ _ x r => rd_cons x r) (fun es hp => by cases hp; exact ⟨_, _, .nil, .nil⟩) (fun _ _ x r => rd_kv x r) h
end
end Mine
namespace Mine
open PySem PySem.W PyProof.Rows

structure Cx where
  prog : Program
  w : World
  K : Frag
  base : Heap
  cC : Addr
  cT : Addr

/-- the built-in names that the texts use -/
noncomputable def bltL : List (Str × Value) := [("abs", .builtin "abs"), ("len", .builtin "len"), ("sorted", .builtin "sorted"), ("sum", .builtin "sum"), ("set", .type "set"), ("tuple", .type "tuple"), ("list", .type "list"), ("dict", .type "dict"), ("range", .type "range"), ("int", .type "int"), ("enumerate", .type "enumerate")]
noncomputable def bltOf (f : Str) : Option Value := bltL.lookup f

structure CxOk (cx : Cx) : Prop where
  inK : cx.K.In cx.base
  three : (cx.base.get? mainGlobals).isSome
  blt : ∃ mb, cx.base.Ns builtinsNs mb ∧ ∀ f v, bltOf f = some v → mb f = some v
  lim : cx.base.NoLimit
  gC : plainGet cx.K cx.cC "" = true
  hC : hasDictIn cx.K cx.cC = true
  fC : ∀ f, f ∈ (["kinds", "parts_now", "known"] : List Str) → findIn cx.K (.ref cx.cC) f = some none
  gT : plainGet cx.K cx.cT "" = true
  hT : hasDictIn cx.K cx.cT = true
  fT : ∀ f, f ∈ (["circuit", "inputs", "known", "plans", "supports"] : List Str) → findIn cx.K (.ref cx.cT) f = some none

/-- pairs of an int-keyed dict -/
inductive RepVals (cx : Cx) (B : Heap) : List (Int × Value) → List (Int × PyData) → Prop
  | nil : RepVals cx B [] []
  | cons {k v vs d ds} : Rep cx.prog cx.w B v d → RepVals cx B vs ds → RepVals cx B ((k, v) :: vs) ((k, d) :: ds)
inductive RepValsS (cx : Cx) (B : Heap) : List (Str × Value) → List (Str × PyData) → Prop
  | nil : RepValsS cx B [] []
  | cons {k v vs d ds} : Rep cx.prog cx.w B v d → RepValsS cx B vs ds → RepValsS cx B ((k, v) :: vs) ((k, d) :: ds)

noncomputable def ListAt (cx : Cx) (B h : Heap) (a : Addr) (xs : List PyData) : Prop := ∃ vs, h.PlainList a vs ∧ RepAll cx.prog cx.w B vs.toList xs
noncomputable def DiAt (cx : Cx) (B h : Heap) (a : Addr) (kvs : List (Int × PyData)) : Prop := ∃ kv, h.DictOf (intKind cx.prog cx.w) a kv ∧ RepVals cx B kv kvs
noncomputable def DsAt (cx : Cx) (B h : Heap) (a : Addr) (kvs : List (Str × PyData)) : Prop := ∃ kv, h.DictOf (strKind cx.prog cx.w) a kv ∧ RepValsS cx B kv kvs

/-- a dict keyed by tuples of ints, its values ints -/
inductive RepT (cx : Cx) (B : Heap) : List (List Int × Addr × Value) → List (List Int × Int) → Prop
  | nil : RepT cx B [] []
  | cons {k a i t es ds} : IsTupleKey (intKind cx.prog cx.w) B k a → RepT cx B es ds → RepT cx B ((k, a, .int i t) :: es) ((k, i) :: ds)
noncomputable def DtAt (cx : Cx) (B h : Heap) (a : Addr) (kvs : List (List Int × Int)) : Prop :=
  ∃ o es ep xs, h.get? a = some o ∧ o.ExactDict ∧ o.data = .dict es ep ∧ es.toList = xs.map (entryOfKey (tupleKind (intKind cx.prog cx.w))) ∧ RepT cx B xs kvs ∧ (kvs.map (·.1)).Nodup

noncomputable def ObjAt (cx : Cx) (B h : Heap) (a : Addr) : O → Prop
  | .list xs => ListAt cx B h a xs
  | .di kvs => DiAt cx B h a kvs
  | .ds kvs => DsAt cx B h a kvs
  | .dt kvs => DtAt cx B h a kvs

noncomputable def fieldE (P : Params) (f : Str) (t : Tok) (v : Value) : DictEntry := ⟨PyData.keyHash P f, .str f t, v⟩

inductive CircIs (cx : Cx) (B : Heap) (ρ : List Addr) : Value → Nat → Nat → Nat → Prop
  | mk {x dx n ak ap am t1 t2 t3 k p m} : ρ[k]? = some ak → ρ[p]? = some ap → ρ[m]? = some am → B.get? x = some (instObj cx.cC dx) →
    B.get? dx = some (dictOf [fieldE cx.w.params "kinds" t1 (.ref ak), fieldE cx.w.params "parts_now" t2 (.ref ap), fieldE cx.w.params "known" t3 (.ref am)] n) → CircIs cx B ρ (.ref x) k p m
inductive CtrIs (cx : Cx) (B : Heap) (ρ : List Addr) : Value → Nat → Nat → Nat → List PyData → Nat → Nat → Nat → Prop
  | mk {x dx n cv iv ak ap as t1 t2 t3 t4 t5 k p m inp kn pl su} : ρ[kn]? = some ak → ρ[pl]? = some ap → ρ[su]? = some as → CircIs cx B ρ cv k p m → Rep cx.prog cx.w B iv (.tuple inp) → B.get? x = some (instObj cx.cT dx) →
    B.get? dx = some (dictOf [fieldE cx.w.params "circuit" t1 cv, fieldE cx.w.params "inputs" t2 iv, fieldE cx.w.params "known" t3 (.ref ak), fieldE cx.w.params "plans" t4 (.ref ap), fieldE cx.w.params "supports" t5 (.ref as)] n) → CtrIs cx B ρ (.ref x) k p m inp kn pl su

/-- plain values -/
noncomputable def RepV (cx : Cx) (B : Heap) (ρ : List Addr) (v : Value) : V → Prop
  | .d x => Rep cx.prog cx.w B v x
  | .h n => ∃ a, ρ[n]? = some a ∧ v = .ref a
  | .rng a b => ∃ r t u c, v = .ref r ∧ IsRange B r a b 1 t u c
  | .circ k p m => CircIs cx B ρ v k p m
  | .ctr k p m inp kn pl su => CtrIs cx B ρ v k p m inp kn pl su
  | _ => False

theorem ne_get {h : Heap} {a b : Addr} {o : Obj} (ha : h.get? a = some o) (hb : h.get? b = none) : a ≠ b := fun e => by rw [e, hb] at ha; cases ha
theorem ne_iss {h : Heap} {a b : Addr} (ha : (h.get? a).isSome) (hb : h.get? b = none) : a ≠ b := fun e => by rw [e, hb] at ha; cases ha
/-- values of variables and arguments -/
noncomputable def RepX (cx : Cx) (B : Heap) (ρ : List Addr) (h : Heap) (o : Option Addr) (v : Value) : V → Prop
  | .ol xs => ∃ a, o = some a ∧ v = .ref a ∧ ListAt cx B h a xs
  | .rl xs => ∃ a, o = some a ∧ v = .ref a ∧ ListAt cx B h a xs
  | .od kvs => ∃ a, o = some a ∧ v = .ref a ∧ DiAt cx B h a kvs
  | .rd kvs => ∃ a, o = some a ∧ v = .ref a ∧ DiAt cx B h a kvs
  | x => RepV cx B ρ v x

noncomputable def V.owned : V → Bool
  | .ol _ | .od _ => true
  | _ => false
noncomputable def V.plain : V → Bool
  | .ol _ | .od _ | .rl _ | .rd _ => false
  | _ => true

/-- the name x of env holds val -/
noncomputable def VarIs (env : Env) (h : Heap) (x : Str) (val : Value) : Prop :=
  (env.kindOf x = some .local ∧ ∃ m, h.Ns env.locals m ∧ m x = some val) ∨
  ((env.kindOf x = some .cell ∨ env.kindOf x = some .free) ∧ ∃ c, env.cells.lookup x = some c ∧ h.IsCell c (some val))

structure GRel (cx : Cx) (G : List O) (B : Heap) (ρ : List Addr) (h : Heap) : Prop where
  ok : CxOk cx
  base : Le cx.base h
  sub : Le B h
  nd : ρ.Nodup
  out : ∀ a ∈ ρ, B.get? a = none ∧ cx.base.get? a = none ∧ a ≠ sysModules
  bsys : B.get? sysModules = none
  len : G.length = ρ.length
  obj : ∀ (n : Nat) (o : O), G[n]? = some o → ∃ a, ρ[n]? = some a ∧ ObjAt cx B h a o

/-- what is static of an environment: the kinds of its names, the variables' names, its own cells -/
structure Sc where
  kind : Str → Option NameKind
  nm : List (Option Str)
  /-- the frozen things at the call's start -/
  B₀ : Heap

noncomputable def kindOk (env : Env) (x : Str) : NameKind → Prop
  | .free => env.kindOf x = some .cell ∨ env.kindOf x = some .free
  | k => env.kindOf x = some k

structure ERel (cx : Cx) (sc : Sc) (env : Env) (s₀ : Heap) (F : List (Option V)) (B : Heap) (ρ : List Addr) (oa : List (Option Addr)) (h : Heap) : Prop where
  fn : env.scope.kind = .function
  gl : env.globals = mainGlobals
  bl : env.builtins = builtinsNs
  kinds : ∀ x k, sc.kind x = some k → kindOk env x k
  ns : ∃ m, h.Ns env.locals m
  lout : B.get? env.locals = none ∧ cx.base.get? env.locals = none ∧ env.locals ∉ ρ ∧ s₀.get? env.locals = none
  cell : ∀ x c, env.cells.lookup x = some c → (∃ v, h.IsCell c v) ∧ B.get? c = none ∧ cx.base.get? c = none ∧ c ∉ ρ ∧ c ≠ env.locals ∧ (sc.kind x = some .cell → s₀.get? c = none)
  hasC : ∀ x, sc.kind x = some .cell ∨ sc.kind x = some .free → (env.cells.lookup x).isSome
  inj : ∀ x y c, env.cells.lookup x = some c → env.cells.lookup y = some c → x = y
  nmInj : ∀ (i j : Nat) (x : Str), sc.nm[i]? = some (some x) → sc.nm[j]? = some (some x) → i = j
  vars : ∀ (i : Nat) (x : Str) (v : V), sc.nm[i]? = some (some x) → F[i]? = some (some v) → ∃ val, VarIs env h x val ∧ RepX cx B ρ h (oa.getD i none) val v
  own : ∀ (i : Nat) (a : Addr), oa.getD i none = some a → (h.get? a).isSome ∧ B.get? a = none ∧ cx.base.get? a = none ∧ a ∉ ρ ∧ a ≠ env.locals ∧ (∀ x c, env.cells.lookup x = some c → c ≠ a) ∧ a ≠ sysModules
  ownI : ∀ (i : Nat) (v : V) (a : Addr), F[i]? = some (some v) → v.owned = true → oa.getD i none = some a → s₀.get? a = none ∧ ∀ j : Nat, oa.getD j none = some a → j = i

structure Rel (cx : Cx) (sc : Sc) (env : Env) (s₀ : Shared) (ρ₀ : List Addr) (F : List (Option V)) (G : List O) (B : Heap) (ρ : List Addr) (oa : List (Option Addr)) (s : Shared) : Prop where
  same : ∃ h tk, s = { s₀ with heap := h, toks := tk }
  keep : ∀ b o, b ∉ ρ₀ → s₀.heap.get? b = some o → s.heap.get? b = some o
  pre : ρ₀ <+: ρ
  newR : ∀ a ∈ ρ, a ∈ ρ₀ ∨ s₀.heap.get? a = none
  nB : ∀ b, b ∉ ρ₀ → sc.B₀.get? b = none → (s₀.heap.get? b).isSome → B.get? b = none
  g : GRel cx G B ρ s.heap
  e : ERel cx sc env s₀.heap F B ρ oa s.heap

/-- room for n calls more -/
structure AOk (n : Nat) (A : Around) : Prop where
  hh : A.handled = none
  dep : A.depth + n < recursionLimit
  un : A.units + 10 * n + 200 < cLine

theorem AOk.deeper {n : Nat} {A : Around} (x : AOk (n + 1) A) (env : Env) : AOk n (A.deeper env) := ⟨x.hh, by have := x.dep; show A.depth + 1 + n < _; lia, by have := x.un; show A.units + 3 + 10 * n + 200 < _; lia⟩

/-! transport -/
section
variable {cx : Cx} {B B' h h' : Heap} {ρ ρ' : List Addr}

theorem RepVals.mono (l : Le B B') {vs ds} (x : RepVals cx B vs ds) : RepVals cx B' vs ds := by
  induction x with
  | nil => exact .nil
  | cons r _ ih => exact .cons (r.mono l) ih
theorem RepValsS.mono (l : Le B B') {vs ds} (x : RepValsS cx B vs ds) : RepValsS cx B' vs ds := by
  induction x with
  | nil => exact .nil
  | cons r _ ih => exact .cons (r.mono l) ih
theorem tupKey_mono (l : Le B B') {k a} (x : IsTupleKey (intKind cx.prog cx.w) B k a) : IsTupleKey (intKind cx.prog cx.w) B' k a := let ⟨o, its, n, ho, r⟩ := x; ⟨o, its, n, l _ _ ho, r⟩
theorem RepT.mono (l : Le B B') {vs ds} (x : RepT cx B vs ds) : RepT cx B' vs ds := by
  induction x with
  | nil => exact .nil
  | cons a _ ih => exact .cons (tupKey_mono l a) ih
theorem ListAt.mono (l : Le B B') {a xs} (k : ∀ o, h.get? a = some o → h'.get? a = some o) (x : ListAt cx B h a xs) : ListAt cx B' h' a xs :=
  let ⟨vs, ⟨o, ho⟩, q⟩ := x; ⟨vs, ⟨o, k _ ho⟩, q.mono l⟩
theorem DiAt.mono (l : Le B B') {a xs} (k : ∀ o, h.get? a = some o → h'.get? a = some o) (x : DiAt cx B h a xs) : DiAt cx B' h' a xs := by
  obtain ⟨vs, ⟨o, es, ep, ho, r⟩, q⟩ := x; exact ⟨vs, ⟨o, es, ep, k _ ho, r⟩, q.mono l⟩
theorem DsAt.mono (l : Le B B') {a xs} (k : ∀ o, h.get? a = some o → h'.get? a = some o) (x : DsAt cx B h a xs) : DsAt cx B' h' a xs := by
  obtain ⟨vs, ⟨o, es, ep, ho, r⟩, q⟩ := x; exact ⟨vs, ⟨o, es, ep, k _ ho, r⟩, q.mono l⟩
theorem DtAt.mono (l : Le B B') {a xs} (k : ∀ o, h.get? a = some o → h'.get? a = some o) (x : DtAt cx B h a xs) : DtAt cx B' h' a xs := by
  obtain ⟨o, es, ep, xs, ho, r1, r2, r3, q, n⟩ := x; exact ⟨o, es, ep, xs, k _ ho, r1, r2, r3, q.mono l, n⟩
theorem ObjAt.mono (l : Le B B') {a o} (k : ∀ o, h.get? a = some o → h'.get? a = some o) (x : ObjAt cx B h a o) : ObjAt cx B' h' a o := by
  cases o with
  | list => exact ListAt.mono l k x
  | di => exact DiAt.mono l k x
  | ds => exact DsAt.mono l k x
  | dt => exact DtAt.mono l k x
theorem pre_get (p : ρ <+: ρ') {n : Nat} {a : Addr} (h : ρ[n]? = some a) : ρ'[n]? = some a := by
  obtain ⟨t, rfl⟩ := p
  rw [List.getElem?_append_left]
  · exact h
  · exact (List.getElem?_eq_some_iff.mp h).1
theorem pre_mem (p : ρ <+: ρ') {a : Addr} (h : a ∈ ρ) : a ∈ ρ' := p.subset h
theorem CircIs.mono (l : Le B B') (p : ρ <+: ρ') {v k q m} (x : CircIs cx B ρ v k q m) : CircIs cx B' ρ' v k q m := by
  cases x with | mk h1 h2 h3 h4 h5 => exact .mk (pre_get p h1) (pre_get p h2) (pre_get p h3) (l _ _ h4) (l _ _ h5)
theorem CtrIs.mono (l : Le B B') (p : ρ <+: ρ') {v k q m inp kn pl su} (x : CtrIs cx B ρ v k q m inp kn pl su) : CtrIs cx B' ρ' v k q m inp kn pl su := by
  cases x with | mk h1 h2 h3 h4 h5 h6 h7 => exact .mk (pre_get p h1) (pre_get p h2) (pre_get p h3) (h4.mono l p) (h5.mono l) (l _ _ h6) (l _ _ h7)
theorem RepV.mono (l : Le B B') (p : ρ <+: ρ') {val} {v : V} (x : RepV cx B ρ val v) : RepV cx B' ρ' val v := by
  cases v with
  | d => exact Rep.mono l x
  | h => obtain ⟨a, h1, h2⟩ := x; exact ⟨a, pre_get p h1, h2⟩
  | rng => obtain ⟨r, t, u, c, h1, h2⟩ := x; exact ⟨r, t, u, c, h1, l _ _ h2⟩
  | circ => exact CircIs.mono l p x
  | ctr => exact CtrIs.mono l p x
  | _ => exact x.elim
theorem RepX.mono (l : Le B B') (p : ρ <+: ρ') {val} {o : Option Addr} (k : ∀ a, o = some a → ∀ ob, h.get? a = some ob → h'.get? a = some ob) {v : V} (x : RepX cx B ρ h o val v) : RepX cx B' ρ' h' o val v := by
  cases v with
  | ol => obtain ⟨a, h1, h2, h3⟩ := x; exact ⟨a, h1, h2, h3.mono l (k a h1)⟩
  | rl => obtain ⟨a, h1, h2, h3⟩ := x; exact ⟨a, h1, h2, h3.mono l (k a h1)⟩
  | od => obtain ⟨a, h1, h2, h3⟩ := x; exact ⟨a, h1, h2, h3.mono l (k a h1)⟩
  | rd => obtain ⟨a, h1, h2, h3⟩ := x; exact ⟨a, h1, h2, h3.mono l (k a h1)⟩
  | d => exact RepV.mono (cx := cx) (v := .d _) l p x
  | h => exact RepV.mono (cx := cx) (v := .h _) l p x
  | rng => exact RepV.mono (cx := cx) (v := .rng _ _) l p x
  | circ => exact RepV.mono (cx := cx) (v := .circ _ _ _) l p x
  | ctr => exact RepV.mono (cx := cx) (v := .ctr _ _ _ _ _ _ _) l p x

theorem VarIs.keep {env : Env} {x val} (kl : ∀ o, h.get? env.locals = some o → h'.get? env.locals = some o) (kc : ∀ c o, env.cells.lookup x = some c → h.get? c = some o → h'.get? c = some o)
    (v : VarIs env h x val) : VarIs env h' x val := by
  rcases v with ⟨k, m, hn, hm⟩ | ⟨k, c, hc, o, ho, hd⟩
  · exact .inl ⟨k, m, hn.at' kl, hm⟩
  · exact .inr ⟨k, c, hc, o, kc c o hc ho, hd⟩

/-- everything that an env's part looks at stays, B and ρ grow -/
theorem ERel.step {sc env s₀ F oa} (x : ERel cx sc env s₀ F B ρ oa h) (l : Le B B') (nB : ∀ b, B.get? b = none → (h.get? b).isSome → B'.get? b = none)
    (p : ρ <+: ρ') (nR : ∀ a ∈ ρ', a ∈ ρ ∨ h.get? a = none) (k : ∀ b o, b ∉ ρ → h.get? b = some o → h'.get? b = some o) : ERel cx sc env s₀ F B' ρ' oa h' := by
  obtain ⟨m, hns⟩ := id x.ns
  obtain ⟨ol, _, _, hol, _⟩ := id hns
  have notR : ∀ a, a ∉ ρ → (h.get? a).isSome → a ∉ ρ' := fun a h1 h2 h3 => by
    rcases nR a h3 with q | q
    · exact h1 q
    · rw [q] at h2; cases h2
  have kl := fun o => k env.locals o x.lout.2.2.1
  have kc := fun y c o (hc : env.cells.lookup y = some c) => k c o (x.cell y c hc).2.2.2.1
  refine { fn := x.fn, gl := x.gl, bl := x.bl, kinds := x.kinds, ns := ⟨m, hns.at' kl⟩, lout := ?_, cell := ?_, hasC := x.hasC, inj := x.inj, nmInj := x.nmInj, vars := ?_, own := ?_, ownI := x.ownI }
  · obtain ⟨a1, a2, a3, a4⟩ := x.lout
    exact ⟨nB _ a1 (by rw [hol]; rfl), a2, notR _ a3 (by rw [hol]; rfl), a4⟩
  · intro y c hc
    obtain ⟨⟨v, o, ho, hd⟩, a1, a2, a3, a4, a5⟩ := x.cell y c hc
    exact ⟨⟨v, o, k c o a3 ho, hd⟩, nB _ a1 (by rw [ho]; rfl), a2, notR _ a3 (by rw [ho]; rfl), a4, a5⟩
  · intro i y v hi hv
    obtain ⟨val, h1, h2⟩ := x.vars i y v hi hv
    refine ⟨val, h1.keep kl (fun c o => kc y c o), h2.mono l p fun a ha ob => k a ob ?_⟩
    exact (x.own i a ha).2.2.2.1
  · intro i a ha
    obtain ⟨a0, a1, a2, a3, a4, a5⟩ := x.own i a ha
    obtain ⟨o, ho⟩ := Option.isSome_iff_exists.mp a0
    exact ⟨by rw [k a o a3 ho]; rfl, nB _ a1 a0, a2, notR _ a3 a0, a4, a5⟩

theorem GRel.keep {G} (x : GRel cx G B ρ h) (k : ∀ b o, h.get? b = some o → h'.get? b = some o) : GRel cx G B ρ h' :=
  { ok := x.ok, base := x.base.trans k, sub := x.sub.trans k, nd := x.nd, out := x.out, bsys := x.bsys, len := x.len,
    obj := fun n o hn => let ⟨a, ha, hob⟩ := x.obj n o hn; ⟨a, ha, hob.mono (Le.refl B) (k a)⟩ }

/-- a heap that has grown only -/
theorem Rel.grow {sc env s₀ ρ₀ F G oa s} (x : Rel cx sc env s₀ ρ₀ F G B ρ oa s) {h' : Heap} {tk : Nat} (k : ∀ b o, s.heap.get? b = some o → h'.get? b = some o) :
    Rel cx sc env s₀ ρ₀ F G B ρ oa { s with heap := h', toks := tk } := by
  obtain ⟨h0, t0, rfl⟩ := x.same
  exact { same := ⟨h', tk, rfl⟩, keep := fun b o hb e => k _ _ (x.keep b o hb e), pre := x.pre, newR := x.newR, nB := x.nB, g := x.g.keep k,
          e := x.e.step (Le.refl B) (fun _ e _ => e) (List.prefix_refl ρ) (fun a ha => .inl ha) fun b o _ e => k b o e }
theorem Rel.tok {sc env s₀ ρ₀ F G oa s} (x : Rel cx sc env s₀ ρ₀ F G B ρ oa s) (tk : Nat) : Rel cx sc env s₀ ρ₀ F G B ρ oa { s with toks := tk } :=
  x.grow (h' := s.heap) fun _ _ e => e

theorem GRel.ext {G} (x : GRel cx G B ρ h) (l : Le B B') (s' : Le B' h) (o : ∀ a ∈ ρ, B'.get? a = none) (o1 : B'.get? sysModules = none) : GRel cx G B' ρ h :=
  { ok := x.ok, base := x.base, sub := s', nd := x.nd, out := fun a ha => ⟨o a ha, (x.out a ha).2⟩, bsys := o1, len := x.len,
    obj := fun n o hn => let ⟨a, ha, hob⟩ := x.obj n o hn; ⟨a, ha, hob.mono l fun _ e => e⟩ }

/-- an object of the heap that nothing owns is laid into B -/
theorem Rel.freeze {sc env s₀ ρ₀ F G oa s} (x : Rel cx sc env s₀ ρ₀ F G B ρ oa s) {a : Addr} {ob : Obj} (ha : s.heap.get? a = some ob) (h1 : a ∉ ρ) (h2 : a ≠ env.locals)
    (h3 : ∀ y c, env.cells.lookup y = some c → c ≠ a) (h4 : ∀ i, oa.getD i none ≠ some a) (h5 : a ≠ sysModules) (h6 : s₀.heap.get? a = none) :
    ∃ B', Le B B' ∧ B'.get? a = some ob ∧ (∀ b, b ≠ a → B'.get? b = B.get? b) ∧ Rel cx sc env s₀ ρ₀ F G B' ρ oa s := by
  obtain ⟨B', l, s', e, r⟩ := ext_B x.g.sub ha
  have nB : ∀ b, b ≠ a → B.get? b = none → B'.get? b = none := fun b hb e' => by rw [r b hb]; exact e'
  refine ⟨B', l, e, r, { same := x.same, keep := x.keep, pre := x.pre, newR := x.newR, nB := fun b q1 q2 q3 => nB b (by first | exact ne_get q3 (h6) | exact ne_iss q3 (h6) | exact ne_get (h6) q3 | (rintro rfl; rw [h6] at q3; cases q3)) (x.nB b q1 q2 q3), g := x.g.ext l s' (fun b hb => nB b (fun e => h1 (e ▸ hb)) (x.g.out b hb).1) (nB _ (Ne.symm h5) x.g.bsys), e := ?_ }⟩
  have E := x.e
  exact { fn := E.fn, gl := E.gl, bl := E.bl, kinds := E.kinds, ns := E.ns, lout := ⟨nB _ (Ne.symm h2) E.lout.1, E.lout.2⟩,
          cell := fun y c hc => let ⟨a0, a1, a2⟩ := E.cell y c hc; ⟨a0, nB _ (h3 y c hc) a1, a2⟩, hasC := E.hasC, inj := E.inj, nmInj := E.nmInj,
          vars := fun i y v hi hv => let ⟨val, b1, b2⟩ := E.vars i y v hi hv; ⟨val, b1, b2.mono l (List.prefix_refl ρ) fun _ _ _ e => e⟩,
          own := fun i b hb => let ⟨c0, c1, c2⟩ := E.own i b hb; ⟨c0, nB _ (fun e => h4 i (e ▸ hb)) c1, c2⟩,
          ownI := E.ownI }

end
end Mine
namespace Mine
open PySem PySem.W PyProof.Rows

inductive Bop | add | sub | mul | fdiv | mod | pow | band
inductive Tg | one (i : Nat) | two (i j : Nat)
inductive Fld | kinds | parts_now | known | circuit | inputs | plans | supports

noncomputable abbrev Fr' := List (Option V)

/-! plain functions on data -/
noncomputable def insI (x : Int) : List Int → List Int
  | [] => [x]
  | y :: r => if x ≤ y then x :: y :: r else y :: insI x r
noncomputable def sortI : List Int → List Int
  | [] => []
  | x :: r => insI x (sortI r)
noncomputable def asInt : PyData → Option Int
  | .int i => some i
  | _ => none
theorem asInt_eq {y : PyData} {k : Int} (h : asInt y = some k) : y = .int k := by
  unfold asInt at h
  split at h
  · cases h; rfl
  · cases h
noncomputable def asInts : List PyData → Option (List Int)
  | [] => some []
  | x :: r => (asInt x).bind fun i => (asInts r).map (i :: ·)
noncomputable def asKvs : List (PyData × PyData) → Option (List (Int × PyData))
  | [] => some []
  | (.int i, x) :: r => (asKvs r).map ((i, x) :: ·)
  | _ :: _ => none

noncomputable def dget (kvs : List (Int × PyData)) (k : Int) : Option PyData := (kvs.find? fun p => p.1 = k).map (·.2)
noncomputable def dput (kvs : List (Int × PyData)) (k : Int) (x : PyData) : List (Int × PyData) :=
  if kvs.any (fun p => p.1 = k) then kvs.map (fun p => if p.1 = k then (p.1, x) else p) else kvs ++ [(k, x)]
noncomputable def dmerge (kvs more : List (Int × PyData)) : List (Int × PyData) := more.foldl (fun a p => dput a p.1 p.2) kvs
noncomputable def dgetS (kvs : List (Str × PyData)) (k : Str) : Option PyData := (kvs.find? fun p => p.1 = k).map (·.2)
noncomputable def dputS (kvs : List (Str × PyData)) (k : Str) (x : PyData) : List (Str × PyData) :=
  if kvs.any (fun p => p.1 = k) then kvs.map (fun p => if p.1 = k then (p.1, x) else p) else kvs ++ [(k, x)]
noncomputable def dgetT (kvs : List (List Int × Int)) (k : List Int) : Option Int := (kvs.find? fun p => p.1 = k).map (·.2)
noncomputable def dputT (kvs : List (List Int × Int)) (k : List Int) (x : Int) : List (List Int × Int) :=
  if kvs.any (fun p => p.1 = k) then kvs.map (fun p => if p.1 = k then (p.1, x) else p) else kvs ++ [(k, x)]

noncomputable def pos? (i : Int) (n : Nat) : Option Nat := if 0 ≤ i then (if i < (n : Int) then some i.toNat else none) else if 0 ≤ i + (n : Int) then some (i + (n : Int)).toNat else none
noncomputable def mulOk (a b : Int) : Bool := decide (a.natAbs < 2 ^ 62) || decide (b.natAbs < 2 ^ 62)
noncomputable def binI (op : Bop) (a b : Int) : Option Int := match op with
  | .add => some (a + b)
  | .sub => some (a - b)
  | .mul => if mulOk a b then some (a * b) else none
  | .fdiv => if b ≠ 0 ∧ b.natAbs < 1073741824 then some (a.fdiv b) else none
  | .mod => if b ≠ 0 then some (a.fmod b) else none
  | .pow => if a = 2 then (if 0 ≤ b ∧ b ≤ 1000 then some (2 ^ b.toNat) else none) else none
  | .band => some (Builtin.bitAnd a b)
noncomputable def szOk (n : Nat) : Bool := decide (n ≤ 4000000)
noncomputable def okD (x : PyData) : Bool := SeqAt.shaped x
noncomputable def eqD (x y : PyData) : Option Bool := if okD x && okD y then some (x.eqv y) else none
noncomputable def inD (x : PyData) : V → Option Bool
  | .d (.list ys) | .ol ys | .rl ys => if okD x && PyData.canLayAll0 ys then some (ys.any fun y => PyData.eqv y x) else none
  | .d (.dict kvs) => (asInt x).bind fun i => (asKvs kvs).map fun q => (dget q i).isSome
  | .od kvs | .rd kvs => (asInt x).map fun i => (dget kvs i).isSome
  | _ => none
noncomputable def inO (x : PyData) : O → Option Bool
  | .di kvs => (asInt x).map fun i => (dget kvs i).isSome
  | .dt kvs => match x with
    | .tuple ys => (asInts ys).map fun q => (dgetT kvs q).isSome
    | _ => none
  | _ => none
noncomputable def idxL (xs : List PyData) (i : Int) : Option PyData := if i.natAbs < 4611686018427387904 then (pos? i xs.length).bind fun j => xs[j]? else none
noncomputable def idxV (i : PyData) : V → Option PyData
  | .d (.list xs) | .d (.tuple xs) | .ol xs | .rl xs => (asInt i).bind (idxL xs)
  | .d (.dict kvs) => (asInt i).bind fun j => (asKvs kvs).bind fun q => dget q j
  | .od kvs | .rd kvs => (asInt i).bind (dget kvs)
  | _ => none
noncomputable def idxO (i : PyData) : O → Option PyData
  | .list xs => (asInt i).bind (idxL xs)
  | .di kvs => (asInt i).bind (dget kvs)
  | .ds kvs => match i with
    | .str x => dgetS kvs x
    | _ => none
  | .dt kvs => match i with
    | .tuple ys => (asInts ys).bind fun q => (dgetT kvs q).map .int
    | _ => none
noncomputable def lenV : V → Option Nat
  | .d (.list xs) | .d (.tuple xs) | .ol xs | .rl xs => if szOk xs.length then some xs.length else none
  | _ => none
noncomputable def itemsV : V → Option (List PyData)
  | .d (.list xs) | .d (.tuple xs) => some xs
  | .d (.dict kvs) => (asKvs kvs).map fun q => q.map fun p => .int p.1
  | .rng a b => if -4000000 ≤ a ∧ a ≤ 4000000 ∧ -4000000 ≤ b ∧ b ≤ 4000000 then some ((List.range (b - a).toNat).map fun i => .int (a + (i : Nat))) else none
  | _ => none
noncomputable def asD : V → Option PyData
  | .d x => some x
  | _ => none
/-- a variable's content, as data, when it escapes -/
noncomputable def moved : V → Option V
  | .ol xs => some (.d (.list xs))
  | .od kvs => some (.d (dpack kvs))
  | .rl _ | .rd _ => none
  | v => some v
/-- as another's argument, or within a comprehension: read only -/
noncomputable def ro : V → V
  | .ol xs => .rl xs
  | .od kvs => .rd kvs
  | v => v
noncomputable def getF (F : Fr') (i : Nat) : Option V := (F[i]?).join
noncomputable def setF (F : Fr') (i : Nat) (v : Option V) : Fr' := F.set i v
noncomputable def fldC (k p m : Nat) : Fld → Option V
  | .kinds => some (.h k)
  | .parts_now => some (.h p)
  | .known => some (.h m)
  | .circuit | .inputs | .plans | .supports => none
noncomputable def fldT (k p m : Nat) (inp : List PyData) (kn pl su : Nat) : Fld → Option V
  | .circuit => some (.circ k p m)
  | .inputs => some (.d (.tuple inp))
  | .known => some (.h kn)
  | .plans => some (.h pl)
  | .supports => some (.h su)
  | .kinds | .parts_now => none
noncomputable def fieldOf (f : Fld) : V → Option V
  | .circ k p m => fldC k p m f
  | .ctr k p m inp kn pl su => fldT k p m inp kn pl su f
  | _ => none

/-- bind a loop's target -/
noncomputable def pairD : PyData → Option (PyData × PyData)
  | .tuple [x, y] => some (x, y)
  | _ => none
noncomputable def bindT (F : Fr') : Tg → PyData → Option Fr'
  | .one i, x => some (setF F i (some (.d x)))
  | .two i j, x => (pairD x).map fun p => setF (setF F i (some (.d p.1))) j (some (.d p.2))
theorem bind_two {F F' : Fr'} {i j : Nat} {x : PyData} (h : bindT F (.two i j) x = some F') : ∃ u v, x = .tuple [u, v] ∧ F' = setF (setF F i (some (.d u))) j (some (.d v)) := by
  cases x with
  | tuple xs => cases xs with
    | nil => cases h
    | cons u t => cases t with
      | nil => cases h
      | cons v t => cases t with
        | nil => exact ⟨u, v, rfl, (Option.some.inj h).symm⟩
        | cons => cases h
  | _ => cases h

noncomputable def idxG (G : List O) (y : PyData) : V → Option PyData
  | .h n => (G[n]?).bind (idxO y)
  | x => idxV y x
noncomputable def inG (G : List O) (x : PyData) : V → Option Bool
  | .h n => (G[n]?).bind (inO x)
  | y => inD x y
noncomputable def lenG (G : List O) : V → Option Nat
  | .h n => (G[n]?).bind fun
    | .list xs => if szOk xs.length then some xs.length else none
    | _ => none
  | x => lenV x
noncomputable def inner (F : Fr') (own : Nat) : Fr' := F.map (·.map ro) ++ List.replicate own none
inductive Fl | next | cont | ret (v : V)

noncomputable def setO (k x : PyData) : O → Option O
  | .di kvs => (asInt k).bind fun i => if szOk kvs.length then some (.di (dput kvs i x)) else none
  | .ds kvs => match k with
    | .str y => if szOk kvs.length then some (.ds (dputS kvs y x)) else none
    | _ => none
  | .dt kvs => match k, x with
    | .tuple ys, .int i => (asInts ys).bind fun q => if szOk kvs.length then some (.dt (dputT kvs q i)) else none
    | _, _ => none
  | _ => none
/-! from the text's trees -/
noncomputable def fldOf (s : Str) : Option Fld :=
  if s == "kinds" then some .kinds else if s == "parts_now" then some .parts_now else if s == "known" then some .known else if s == "circuit" then some .circuit
  else if s == "inputs" then some .inputs else if s == "plans" then some .plans else if s == "supports" then some .supports else none
noncomputable def bopOf : Operator → Option Bop
  | .Add => some .add | .Sub => some .sub | .Mult => some .mul | .FloorDiv => some .fdiv | .Mod => some .mod | .Pow => some .pow | .BitAnd => some .band
  | _ => none
noncomputable def oddName (x : Str) : Bool := x == ("__debug__" : Str) || x == ("__classdict__" : Str)
noncomputable def attrBase : Expr → Bool
  | .Name .. | .Attribute .. => true
  | _ => false
noncomputable def isComp : Expr → Bool
  | .ListComp .. | .SetComp .. | .DictComp .. => true
  | _ => false
noncomputable def ownL (scope : Scope) : List (Str × NameKind) := scope.names.filter fun p => (p.2 == .local || p.2 == .cell) && p.1 != (".0" : Str)
noncomputable def localsOf (params : Arguments) (sc : Scope) : List Str :=
  let ps := params.args.map (·.arg)
  ps ++ (sc.names.filter fun p => (p.2 == .local || p.2 == .cell) && !ps.contains p.1).map (·.1)
end Mine
namespace Mine
open PySem PySem.W PySem.Calls PyProof.Rows

/-- growth from one point to a later one -/
structure Gr (B : Heap) (ρ : List Addr) (oa : List (Option Addr)) (h : Heap) (B' : Heap) (ρ' : List Addr) (oa' : List (Option Addr)) (h' : Heap) : Prop where
  le : Le B B'
  pre : ρ <+: ρ'
  newR : ∀ a ∈ ρ', a ∈ ρ ∨ h.get? a = none
  nB : ∀ b, b ∉ ρ → B.get? b = none → (h.get? b).isSome → (∀ i : Nat, oa.getD i none ≠ some b) → B'.get? b = none
  keep : ∀ b o, b ∉ ρ → h.get? b = some o → h'.get? b = some o
  oaS : ∀ (i : Nat) (a : Addr), oa'.getD i none = some a → oa.getD i none = some a

theorem Gr.refl (B ρ oa h) : Gr B ρ oa h B ρ oa h := ⟨Le.refl B, List.prefix_refl ρ, fun _ h => .inl h, fun _ _ h _ _ => h, fun _ _ _ h => h, fun _ _ h => h⟩
theorem Gr.trans {B ρ oa h B' ρ' oa' h' B'' ρ'' oa'' h''} (x : Gr B ρ oa h B' ρ' oa' h') (y : Gr B' ρ' oa' h' B'' ρ'' oa'' h'') : Gr B ρ oa h B'' ρ'' oa'' h'' where
  le := x.le.trans y.le
  pre := x.pre.trans y.pre
  newR := fun a ha => by
    rcases y.newR a ha with q | q
    · exact x.newR a q
    · by_cases hr : a ∈ ρ
      · exact .inl hr
      · right
        cases e : h.get? a with
        | none => rfl
        | some o => rw [x.keep a o hr e] at q; cases q
  nB := fun b hr hb hs ho => by
    obtain ⟨o, e⟩ := Option.isSome_iff_exists.mp hs
    refine y.nB b (fun q => ?_) (x.nB b hr hb hs ho) (by rw [x.keep b o hr e]; rfl) fun i q => ho i (x.oaS i b q)
    rcases x.newR b q with q | q
    · exact hr q
    · rw [q] at e; cases e
  keep := fun b o hr e => y.keep b o (fun q => by
    rcases x.newR b q with q | q
    · exact hr q
    · rw [q] at e; cases e) (x.keep b o hr e)
  oaS := fun i a e => x.oaS i a (y.oaS i a e)

theorem Gr.heap {B ρ oa h h'} (k : ∀ b o, h.get? b = some o → h'.get? b = some o) : Gr B ρ oa h B ρ oa h' := ⟨Le.refl B, List.prefix_refl ρ, fun _ h => .inl h, fun _ _ h _ _ => h, fun b o _ h => k b o h, fun _ _ h => h⟩

/-- what an expression leaves: a plain value -/
inductive PostE (cx : Cx) (sc : Sc) (env : Env) (s₀ : Shared) (ρ₀ : List Addr) (F' : List (Option V)) (G' : List O) (B : Heap) (ρ : List Addr) (oa : List (Option Addr)) (h : Heap) (v : V) (val : Value) (s' : Shared) : Prop
  | mk (B' : Heap) (ρ' : List Addr) (oa' : List (Option Addr)) : Rel cx sc env s₀ ρ₀ F' G' B' ρ' oa' s' → Gr B ρ oa h B' ρ' oa' s'.heap → RepV cx B' ρ' val v → PostE cx sc env s₀ ρ₀ F' G' B ρ oa h v val s'

/-- an address that is nobody's -/
structure Free (cx : Cx) (env : Env) (B : Heap) (ρ : List Addr) (oa : List (Option Addr)) (a : Addr) : Prop where
  b : B.get? a = none
  base : cx.base.get? a = none
  r : a ∉ ρ
  o : ∀ i : Nat, oa.getD i none ≠ some a
  l : a ≠ env.locals
  c : ∀ x c, env.cells.lookup x = some c → c ≠ a
  n : a ≠ sysModules

/-- what an expression leaves: a new list or dict that is nobody's -/
inductive PostO (cx : Cx) (sc : Sc) (env : Env) (s₀ : Shared) (ρ₀ : List Addr) (F' : List (Option V)) (G' : List O) (B : Heap) (ρ : List Addr) (oa : List (Option Addr)) (h : Heap) (v : V) (val : Value) (s' : Shared) : Prop
  | mk (B' : Heap) (ρ' : List Addr) (oa' : List (Option Addr)) (a : Addr) : Rel cx sc env s₀ ρ₀ F' G' B' ρ' oa' s' → Gr B ρ oa h B' ρ' oa' s'.heap → RepX cx B' ρ' s'.heap (some a) val v → v.owned = true → h.get? a = none → (s'.heap.get? a).isSome → Free cx env B' ρ' oa' a ∧ s₀.heap.get? a = none → PostO cx sc env s₀ ρ₀ F' G' B ρ oa h v val s'

/-- several values -/
inductive PostL (cx : Cx) (sc : Sc) (env : Env) (s₀ : Shared) (ρ₀ : List Addr) (F' : List (Option V)) (G' : List O) (B : Heap) (ρ : List Addr) (oa : List (Option Addr)) (h : Heap) (xs : List PyData) (vals : List Value) (s' : Shared) : Prop
  | mk (B' : Heap) (ρ' : List Addr) (oa' : List (Option Addr)) : Rel cx sc env s₀ ρ₀ F' G' B' ρ' oa' s' → Gr B ρ oa h B' ρ' oa' s'.heap → RepAll cx.prog cx.w B' vals xs → PostL cx sc env s₀ ρ₀ F' G' B ρ oa h xs vals s'

section
variable (cx : Cx) (n : Nat) (sc : Sc)
noncomputable def TE (e : Expr) (F : List (Option V)) (G : List O) (v : V) (F' : List (Option V)) (G' : List O) : Prop :=
  ∀ (A : Around) (env : Env) (s₀ : Shared) (ρ₀ : List Addr) (B : Heap) (ρ : List Addr) (oa : List (Option Addr)) (s : Shared),
    AOk n A → Rel cx sc env s₀ ρ₀ F G B ρ oa s →
    wpAny (model cx.prog cx.w) A (eval e env) (PostE cx sc env s₀ ρ₀ F' G' B ρ oa s.heap v) (fun _ _ => False) s
noncomputable def TO (e : Expr) (F : List (Option V)) (G : List O) (v : V) (F' : List (Option V)) (G' : List O) : Prop :=
  ∀ (A : Around) (env : Env) (s₀ : Shared) (ρ₀ : List Addr) (B : Heap) (ρ : List Addr) (oa : List (Option Addr)) (s : Shared),
    AOk n A → Rel cx sc env s₀ ρ₀ F G B ρ oa s →
    wpAny (model cx.prog cx.w) A (eval e env) (PostO cx sc env s₀ ρ₀ F' G' B ρ oa s.heap v) (fun _ _ => False) s
/-- a test: its truth -/
noncomputable def TB (e : Expr) (F : List (Option V)) (G : List O) (b : Bool) (F' : List (Option V)) (G' : List O) : Prop :=
  ∀ (A : Around) (env : Env) (s₀ : Shared) (ρ₀ : List Addr) (B : Heap) (ρ : List Addr) (oa : List (Option Addr)) (s : Shared),
    AOk n A → Rel cx sc env s₀ ρ₀ F G B ρ oa s →
    wpAny (model cx.prog cx.w) A (isTrue e env (eval e env)) (fun c s' => PostE cx sc env s₀ ρ₀ F' G' B ρ oa s.heap (.d (.bool b)) (.bool c) s') (fun _ _ => False) s
noncomputable def TL (es : List Expr) (F : List (Option V)) (G : List O) (xs : List PyData) (F' : List (Option V)) (G' : List O) : Prop :=
  ∀ (A : Around) (env : Env) (s₀ : Shared) (ρ₀ : List Addr) (B : Heap) (ρ : List Addr) (oa : List (Option Addr)) (s : Shared) (pos : Pos),
    AOk n A → Rel cx sc env s₀ ρ₀ F G B ρ oa s →
    wpAny (model cx.prog cx.w) A (spliced (backTo pos (starEach es env))) (PostL cx sc env s₀ ρ₀ F' G' B ρ oa s.heap xs) (fun _ _ => False) s
end

section
variable {cx : Cx} {n : Nat} {sc : Sc} {env : Env} {s₀ s s' : Shared} {ρ₀ ρ : List Addr} {F F' F₁ : List (Option V)} {G G' G₁ : List O} {B : Heap} {oa : List (Option Addr)} {A : Around} {E : Value → Shared → Prop}

/-- nothing has happened but growth of the heap -/
theorem PostE.now (R : Rel cx sc env s₀ ρ₀ F G B ρ oa s) {val v} (r : RepV cx B ρ val v) : PostE cx sc env s₀ ρ₀ F G B ρ oa s.heap v val s := ⟨B, ρ, oa, R, Gr.refl .., r⟩
theorem PostE.tok (R : Rel cx sc env s₀ ρ₀ F G B ρ oa s) {val v} (tk : Nat) (r : RepV cx B ρ val v) : PostE cx sc env s₀ ρ₀ F G B ρ oa s.heap v val { s with toks := tk } := ⟨B, ρ, oa, R.tok tk, Gr.refl .., r⟩
theorem PostE.after {B' ρ' oa' v val h} (g : Gr B ρ oa h B' ρ' oa' s.heap) (p : PostE cx sc env s₀ ρ₀ F' G' B' ρ' oa' s.heap v val s') : PostE cx sc env s₀ ρ₀ F' G' B ρ oa h v val s' :=
  let ⟨B₂, ρ₂, oa₂, R, g', r⟩ := p; ⟨B₂, ρ₂, oa₂, R, g.trans g', r⟩
theorem PostO.after {B' ρ' oa' v val h} (g : Gr B ρ oa h B' ρ' oa' s.heap) (p : PostO cx sc env s₀ ρ₀ F' G' B' ρ' oa' s.heap v val s') : PostO cx sc env s₀ ρ₀ F' G' B ρ oa h v val s' := by
  obtain ⟨B₂, ρ₂, oa₂, a, R, g', r, ow, h1, h2, h3⟩ := p
  refine ⟨B₂, ρ₂, oa₂, a, R, g.trans g', r, ow, ?_, h2, h3⟩
  cases e : h.get? a with
  | none => rfl
  | some o =>
    by_cases hr : a ∈ ρ
    · exact absurd (pre_mem (g'.pre) (pre_mem g.pre hr)) h3.1.r
    · rw [g.keep a o hr e] at h1; cases h1
theorem get?_big {h : Heap} {a : Addr} (l : h.objs.size ≤ a) : h.get? a = none := by
  cases e : h.get? a with
  | none => rfl
  | some o => exact absurd (Heap.lt_size e) (Nat.not_lt.mpr l)
theorem Rel.locals_some (R : Rel cx sc env s₀ ρ₀ F G B ρ oa s) : ∃ o, s.heap.get? env.locals = some o := by
  obtain ⟨m, o, _, _, ho, _⟩ := R.e.ns; exact ⟨o, ho⟩
theorem Rel.cell_some (R : Rel cx sc env s₀ ρ₀ F G B ρ oa s) {x c} (hc : env.cells.lookup x = some c) : ∃ o, s.heap.get? c = some o := by
  obtain ⟨⟨_, o, ho, _⟩, _⟩ := R.e.cell x c hc; exact ⟨o, ho⟩

/-- what is new is apart -/
theorem Rel.fresh_apart' (R : Rel cx sc env s₀ ρ₀ F G B ρ oa s) {a : Addr} (h : s.heap.get? a = none) (hsys : a ≠ sysModules) : Free cx env B ρ oa a := by
  refine ⟨?_, ?_, fun ha => ?_, ?_, ?_, ?_, ?_⟩
  rotate_left 2
  · obtain ⟨i, hi⟩ := List.mem_iff_getElem?.mp ha
    have hl : i < G.length := by rw [R.g.len]; exact (List.getElem?_eq_some_iff.mp hi).1
    obtain ⟨b, hb, ob⟩ := R.g.obj i G[i] (List.getElem?_eq_getElem hl)
    rw [hi] at hb; cases hb
    generalize G[i] = o at ob
    cases o with
    | list => obtain ⟨_, ⟨_, e⟩, _⟩ := ob; rw [h] at e; cases e
    | di => obtain ⟨_, ⟨_, _, _, e, _⟩, _⟩ := ob; rw [h] at e; cases e
    | ds => obtain ⟨_, ⟨_, _, _, e, _⟩, _⟩ := ob; rw [h] at e; cases e
    | dt => obtain ⟨_, _, _, _, e, _⟩ := ob; rw [h] at e; cases e
  · intro i e; have := (R.e.own i a e).1; rw [h] at this; cases this
  · rintro rfl; obtain ⟨o, e⟩ := R.locals_some; rw [h] at e; cases e
  · rintro x c hc rfl; obtain ⟨o, e⟩ := R.cell_some hc; rw [h] at e; cases e
  · exact hsys
  · cases e : B.get? a with
    | none => rfl
    | some o => rw [R.g.sub a o e] at h; cases h
  · cases e : cx.base.get? a with
    | none => rfl
    | some o => rw [R.g.base a o e] at h; cases h

theorem Rel.not_sys (R : Rel cx sc env s₀ ρ₀ F G B ρ oa s) {h' : Heap} (k : ∀ b o, s.heap.get? b = some o → h'.get? b = some o) {a : Addr} (hge : h'.objs.size ≤ a) : a ≠ sysModules := by
  rintro rfl
  obtain ⟨o, e⟩ := Option.isSome_iff_exists.mp R.g.ok.three
  have := Heap.lt_size (k _ _ (R.g.base _ _ e))
  exact absurd (Nat.lt_of_lt_of_le this hge) (by decide)
theorem none_of_keep {h h' : Heap} (k : ∀ b o, h.get? b = some o → h'.get? b = some o) {a : Addr} (hn : h'.get? a = none) : h.get? a = none := by
  cases e : h.get? a with
  | none => rfl
  | some o => rw [k a o e] at hn; cases hn
theorem Rel.fresh_apart (R : Rel cx sc env s₀ ρ₀ F G B ρ oa s) {a : Addr} (hge : s.heap.objs.size ≤ a) : Free cx env B ρ oa a := R.fresh_apart' (get?_big hge) (R.not_sys (fun _ _ e => e) hge)

theorem Rel.before (R : Rel cx sc env s₀ ρ₀ F G B ρ oa s) {d : Addr} (hr : d ∉ ρ) (hd : s.heap.get? d = none) : s₀.heap.get? d = none := by
  cases e : s₀.heap.get? d with
  | none => rfl
  | some o => rw [R.keep d o (fun q => hr (pre_mem R.pre q)) e] at hd; cases hd

/-- a new object laid into B -/
theorem PostE.newB' (R : Rel cx sc env s₀ ρ₀ F G B ρ oa s) {a : Addr} {ob : Obj} {h' : Heap} {tk : Nat} {v : V} {val : Value} (hn : s.heap.get? a = none) (hsys : a ≠ sysModules) (k : ∀ b o, s.heap.get? b = some o → h'.get? b = some o)
    (ha : h'.get? a = some ob) (r : ∀ B', Le B B' → B'.get? a = some ob → RepV cx B' ρ val v) : PostE cx sc env s₀ ρ₀ F G B ρ oa s.heap v val { s with heap := h', toks := tk } := by
  have q := R.fresh_apart' hn hsys
  obtain ⟨B', l, e, d, R'⟩ := (R.grow (h' := h') (tk := tk) k).freeze ha q.r q.l q.c q.o q.n (R.before q.r hn)
  refine ⟨B', ρ, oa, R', ⟨l, List.prefix_refl ρ, fun a h => .inl h, fun b hr hb hs ho => ?_, fun b o _ e => k b o e, fun _ _ h => h⟩, r B' l e⟩
  rw [d b (by first | exact ne_get hs (hn) | exact ne_iss hs (hn) | exact ne_get (hn) hs | (rintro rfl; rw [hn] at hs; cases hs))]; exact hb
theorem PostE.newB (R : Rel cx sc env s₀ ρ₀ F G B ρ oa s) {a : Addr} {ob : Obj} {h' : Heap} {tk : Nat} {v : V} {val : Value} (hge : s.heap.objs.size ≤ a) (k : ∀ b o, s.heap.get? b = some o → h'.get? b = some o)
    (ha : h'.get? a = some ob) (r : ∀ B', Le B B' → B'.get? a = some ob → RepV cx B' ρ val v) : PostE cx sc env s₀ ρ₀ F G B ρ oa s.heap v val { s with heap := h', toks := tk } := PostE.newB' R (get?_big hge) (R.not_sys (fun _ _ e => e) hge) k ha r

/-- a new list or dict that is nobody's -/
theorem PostO.new' (R : Rel cx sc env s₀ ρ₀ F G B ρ oa s) {a : Addr} {h' : Heap} {tk : Nat} {v : V} {val : Value} (hn : s.heap.get? a = none) (hsys : a ≠ sysModules) (k : ∀ b o, s.heap.get? b = some o → h'.get? b = some o)
    (ha : (h'.get? a).isSome) (r : RepX cx B ρ h' (some a) val v) (ow : v.owned = true) : PostO cx sc env s₀ ρ₀ F G B ρ oa s.heap v val { s with heap := h', toks := tk } :=
  ⟨B, ρ, oa, a, R.grow k, Gr.heap k, r, ow, hn, ha, R.fresh_apart' hn hsys, R.before (R.fresh_apart' hn hsys).r hn⟩
theorem PostO.new (R : Rel cx sc env s₀ ρ₀ F G B ρ oa s) {a : Addr} {h' : Heap} {tk : Nat} {v : V} {val : Value} (hge : s.heap.objs.size ≤ a) (k : ∀ b o, s.heap.get? b = some o → h'.get? b = some o)
    (ha : (h'.get? a).isSome) (r : RepX cx B ρ h' (some a) val v) (ow : v.owned = true) : PostO cx sc env s₀ ρ₀ F G B ρ oa s.heap v val { s with heap := h', toks := tk } :=
  ⟨B, ρ, oa, a, R.grow k, Gr.heap k, r, ow, get?_big hge, ha, R.fresh_apart hge, R.before (R.fresh_apart hge).r (get?_big hge)⟩

end
end Mine
namespace Mine
open PySem PySem.W PySem.Calls PyProof.Rows

theorem ne_debug {x : Str} (h : oddName x = false) : (x == ("__debug__" : Str)) = false := by
  unfold oddName at h; exact (Bool.or_eq_false_iff.mp h).1
theorem ne_classdict {x : Str} (h : oddName x = false) : (x == ("__classdict__" : Str)) = false := by
  unfold oddName at h; exact (Bool.or_eq_false_iff.mp h).2

noncomputable def plainE : Expr → Bool
  | .Set .. | .Starred .. | .Slice .. => false
  | _ => true
theorem behind_plain {op : CmpOp} {e : Expr} (h : plainE e = true) : behindInMarks op e = false := by cases e <;> first | rfl | cases h
theorem star_plain {env : Env} {e : Expr} {rest : List Expr} (h : plainE e = true) : starEach (e :: rest) env = (false, eval e env) :: starEach rest env := by cases e <;> first | rfl | cases h
theorem folded_plain {env : Env} {e : Expr} (h : plainE e = true) (x : Value) : foldedSetIterable e env x = pure x := by cases e <;> first | rfl | cases h

section
variable {cx : Cx} {n : Nat} {sc : Sc} {F F' F₁ : List (Option V)} {G G' G₁ : List O}

theorem load_var {M : Model} {A : Around} {E : Value → Shared → Prop} {s : Shared} {env : Env} {x : Str} {pos : Pos} {val : Value} {Q : Value → Shared → Prop} (hk : env.scope.kind = .function) (hx : oddName x = false) (v : VarIs env s.heap x val) (q : Q val s) :
    wpAny M A (eval (.Name x pos) env) Q E s := by
  refine wpAny_Name ?_ (ne_debug hx)
  rcases v with ⟨k, m, hn, hm⟩ | ⟨k | k, c, hc, hv⟩
  · exact wpAny_loadName_local hk k hn hm q
  · exact wpAny_loadName_cell hk k hc hv q
  · exact wpAny_loadName_free hk k hc hv q (ne_classdict hx)

theorem getF_get {F : Fr'} {i : Nat} {v : V} (h : getF F i = some v) : F[i]? = some (some v) := by
  unfold getF at h
  cases e : F[i]? with
  | none => rw [e] at h; cases h
  | some o => rw [e] at h; exact congrArg some h

theorem T_int (i : Int) (k pos) : TE cx n sc (.Constant (.int i) k pos) F G (.d (.int i)) F G := by
  intro A env s₀ ρ₀ B ρ oa s ok R
  exact wpAny_Constant_int (PostE.tok R _ (Rep.int _ _))
theorem T_str (i : Str) (k pos) : TE cx n sc (.Constant (.str i) k pos) F G (.d (.str i)) F G := by
  intro A env s₀ ρ₀ B ρ oa s ok R
  exact Constant_str (PostE.tok R _ (Rep.str _ _))
theorem T_bool (i : Bool) (k pos) : TE cx n sc (.Constant (.bool i) k pos) F G (.d (.bool i)) F G := by
  intro A env s₀ ρ₀ B ρ oa s ok R
  exact Constant_bool (PostE.now R (Rep.bool _))

theorem repX_plain {cx : Cx} {B ρ h o val} {v : V} (p : v.plain = true) (r : RepX cx B ρ h o val v) : RepV cx B ρ val v := by
  cases v <;> first | exact r | cases p

theorem T_var {i : Nat} {x : Str} {pos : Pos} {v : V} (hx : oddName x = false) (hn : sc.nm[i]? = some (some x)) (hv : getF F i = some v) (p : v.plain = true) : TE cx n sc (.Name x pos) F G v F G := by
  intro A env s₀ ρ₀ B ρ oa s ok R
  obtain ⟨val, h1, h2⟩ := R.e.vars i x v hn (getF_get hv)
  exact load_var R.e.fn hx h1 (PostE.now R (repX_plain p h2))

theorem set_get {F : Fr'} {i j : Nat} {o : Option V} {v : V} (h : (setF F i o)[j]? = some (some v)) : (j = i ∧ o = some v) ∨ (j ≠ i ∧ F[j]? = some (some v)) := by
  unfold setF at h
  rw [List.getElem?_set] at h
  split at h
  · split at h
    · rename_i e _; exact .inl ⟨e.symm, Option.some.inj h⟩
    · cases h
  · rename_i e; exact .inr ⟨fun q => e q.symm, h⟩

theorem getD_set {oa : List (Option Addr)} {i j : Nat} {o : Option Addr} {a : Addr} (h : (oa.set i o).getD j none = some a) : (j = i ∧ o = some a) ∨ (j ≠ i ∧ oa.getD j none = some a) := by
  simp only [List.getD_eq_getElem?_getD, List.getElem?_set] at h ⊢
  split at h
  · split at h
    · rename_i e _; exact .inl ⟨e.symm, by simpa using h⟩
    · simp at h
  · rename_i e; exact .inr ⟨fun q => e q.symm, h⟩

/-- an owned thing of a variable escapes: into B with it -/
theorem Rel.kill {env s₀ ρ₀ ρ B oa s} (R : Rel cx sc env s₀ ρ₀ F G B ρ oa s) {i : Nat} {v : V} {a : Addr} (hv : F[i]? = some (some v)) (ow : v.owned = true) (ha : oa.getD i none = some a) :
    ∃ B' ob, s.heap.get? a = some ob ∧ B'.get? a = some ob ∧ Rel cx sc env s₀ ρ₀ (setF F i none) G B' ρ (oa.set i none) s ∧ Gr B ρ oa s.heap B' ρ (oa.set i none) s.heap := by
  obtain ⟨c0, c1, c2, c3, c4, c5, c6⟩ := R.e.own i a ha
  obtain ⟨d1, d2⟩ := R.e.ownI i v a hv ow ha
  obtain ⟨ob, hob⟩ := Option.isSome_iff_exists.mp c0
  have R1 : Rel cx sc env s₀ ρ₀ (setF F i none) G B ρ (oa.set i none) s :=
    { same := R.same, keep := R.keep, pre := R.pre, newR := R.newR, nB := R.nB, g := R.g,
      e := { fn := R.e.fn, gl := R.e.gl, bl := R.e.bl, kinds := R.e.kinds, ns := R.e.ns, lout := R.e.lout, cell := R.e.cell, hasC := R.e.hasC, inj := R.e.inj, nmInj := R.e.nmInj,
             vars := fun j y u hj hu => by
               rcases set_get hu with ⟨_, q⟩ | ⟨q1, q2⟩
               · cases q
               · obtain ⟨val, e1, e2⟩ := R.e.vars j y u hj q2
                 refine ⟨val, e1, ?_⟩
                 rw [show (oa.set i none).getD j none = oa.getD j none by simp only [List.getD_eq_getElem?_getD, List.getElem?_set]; rw [if_neg (fun e => q1 e.symm)]]
                 exact e2
             own := fun j b hb => by
               rcases getD_set hb with ⟨_, q⟩ | ⟨_, q⟩
               · cases q
               · exact R.e.own j b q
             ownI := fun j u b hu ho hb => by
               rcases set_get hu with ⟨_, q⟩ | ⟨q1, q2⟩
               · cases q
               · rcases getD_set hb with ⟨_, q⟩ | ⟨_, q⟩
                 · cases q
                 · obtain ⟨e1, e2⟩ := R.e.ownI j u b q2 ho q
                   refine ⟨e1, fun k hk => ?_⟩
                   rcases getD_set hk with ⟨_, q⟩ | ⟨_, q⟩
                   · cases q
                   · exact e2 k q } }
  have notoa : ∀ j : Nat, (oa.set i none).getD j none ≠ some a := fun j e => by
    rcases getD_set e with ⟨_, q⟩ | ⟨q1, q2⟩
    · cases q
    · exact q1 (d2 j q2)
  obtain ⟨B', l, e, d, R2⟩ := R1.freeze hob c3 c4 c5 notoa c6 d1
  refine ⟨B', ob, hob, e, R2, ⟨l, List.prefix_refl ρ, fun _ h => .inl h, fun b _ hb _ ho => ?_, fun _ _ _ h => h, fun j b hb => ?_⟩⟩
  · rw [d b (fun q => ho i (q ▸ ha))]; exact hb
  · rcases getD_set hb with ⟨_, q⟩ | ⟨_, q⟩
    · cases q
    · exact q

theorem repVals_kv {cx : Cx} {B : Heap} {kv : List (Int × Value)} {kvs : List (Int × PyData)} (r : RepVals cx B kv kvs) : RepKv cx.prog cx.w B kv (kvs.map fun p => (.int p.1, p.2)) := by
  induction r with
  | nil => exact .nil
  | cons x _ ih => exact .cons x ih

theorem rep_of_list {cx : Cx} {B h : Heap} {a : Addr} {xs : List PyData} {ob : Obj} {B' : Heap} (l : Le B B') (x : ListAt cx B h a xs) (h1 : h.get? a = some ob) (h2 : B'.get? a = some ob) : Rep cx.prog cx.w B' (.ref a) (.list xs) := by
  obtain ⟨vs, ⟨o, ho⟩, q⟩ := x
  rw [h1] at ho; cases ho
  exact .list ⟨o, h2⟩ (q.mono l)
theorem rep_of_dict {cx : Cx} {B h : Heap} {a : Addr} {xs : List (Int × PyData)} {ob : Obj} {B' : Heap} (l : Le B B') (x : DiAt cx B h a xs) (h1 : h.get? a = some ob) (h2 : B'.get? a = some ob) : Rep cx.prog cx.w B' (.ref a) (dpack xs) := by
  obtain ⟨vs, ⟨o, es, ep, ho, r⟩, q⟩ := x
  rw [h1] at ho; cases ho
  exact .dict ⟨ob, es, ep, h2, r⟩ ((repVals_kv q).mono l)

theorem T_varOwn {i : Nat} {x : Str} {pos : Pos} {v u : V} (hx : oddName x = false) (hn : sc.nm[i]? = some (some x)) (hv : getF F i = some v) (ow : v.owned = true) (hm : moved v = some u) : TE cx n sc (.Name x pos) F G u (setF F i none) G := by
  intro A env s₀ ρ₀ B ρ oa s ok R
  obtain ⟨val, h1, h2⟩ := R.e.vars i x v hn (getF_get hv)
  refine load_var R.e.fn hx h1 ?_
  cases v with
  | ol xs =>
    obtain ⟨a, e1, rfl, e3⟩ := h2
    obtain ⟨B', ob, k1, k2, R', g⟩ := R.kill (getF_get hv) ow e1
    cases hm
    exact ⟨B', ρ, _, R', g, rep_of_list g.le e3 k1 k2⟩
  | od kvs =>
    obtain ⟨a, e1, rfl, e3⟩ := h2
    obtain ⟨B', ob, k1, k2, R', g⟩ := R.kill (getF_get hv) ow e1
    cases hm
    exact ⟨B', ρ, _, R', g, rep_of_dict g.le e3 k1 k2⟩
  | _ => cases ow

/-- what is new may be frozen -/
theorem PostO.freeze {env : Env} {s₀ s' : Shared} {ρ₀ ρ B oa h} {v u : V} {val} (hm : moved v = some u) (p : PostO cx sc env s₀ ρ₀ F' G' B ρ oa h v val s') : PostE cx sc env s₀ ρ₀ F' G' B ρ oa h u val s' := by
  obtain ⟨B', ρ', oa', a, R, g, r, ow, h1, h2, h3⟩ := p
  obtain ⟨ob, hob⟩ := Option.isSome_iff_exists.mp h2
  obtain ⟨B₂, l, e, d, R'⟩ := R.freeze hob h3.1.r h3.1.l h3.1.c h3.1.o h3.1.n h3.2
  have g2 : Gr B ρ oa h B₂ ρ' oa' s'.heap := ⟨g.le.trans l, g.pre, g.newR, fun b hr hb hs ho => by
    rw [d b (by first | exact ne_get hs (h1) | exact ne_iss hs (h1) | exact ne_get (h1) hs | (rintro rfl; rw [h1] at hs; cases hs))]; exact g.nB b hr hb hs ho, g.keep, g.oaS⟩
  refine ⟨B₂, ρ', oa', R', g2, ?_⟩
  cases v with
  | ol xs => obtain ⟨_, e1, rfl, e3⟩ := r; cases e1; cases hm; exact rep_of_list l e3 hob e
  | od kvs => obtain ⟨_, e1, rfl, e3⟩ := r; cases e1; cases hm; exact rep_of_dict l e3 hob e
  | _ => cases ow
theorem TO.te {e : Expr} {v u : V} (h : TO cx n sc e F G v F' G') (hm : moved v = some u) : TE cx n sc e F G u F' G' :=
  fun A env s₀ ρ₀ B ρ oa s ok R => wpAny_mono (h A env s₀ ρ₀ B ρ oa s ok R) (fun _ _ p => p.freeze hm) fun _ _ x => x

/-! arithmetic, comparisons -/
theorem T_neg {e : Expr} {i : Int} {p} (h : TE cx n sc e F G (.d (.int i)) F' G') : TE cx n sc (.UnaryOp .USub e p) F G (.d (.int (-i))) F' G' := by
  intro A env s₀ ρ₀ B ρ oa s ok R
  refine UnaryOp_ (wpAny_mono (h A env s₀ ρ₀ B ρ oa s ok R) (fun val s₁ p => ?_) fun _ _ x => x)
  obtain ⟨B₁, ρ₁, oa₁, R₁, g₁, r⟩ := p
  have r : Rep cx.prog cx.w B₁ val (.int i) := r
  cases r
  exact neg_int (PostE.after g₁ (PostE.tok R₁ _ (Rep.int _ _)))
theorem bin_int {cx : Cx} {A : Around} {E : Value → Shared → Prop} {s : Shared} {a b c : Int} {t u : Tok} {o : Operator} {op : Bop} {Q : Value → Shared → Prop} (ho : bopOf o = some op) (hc : binI op a b = some c)
    (q : ∀ tk tk', Q (.int c tk) { s with toks := tk' }) : wpAny (model cx.prog cx.w) A (binaryOp o (.int a t) (.int b u)) Q E s := by
  cases o <;> simp only [bopOf] at ho <;> cases ho
  case Add => cases hc; exact PyProof.Rows.add_int (q _ _)
  case Sub => cases hc; exact sub_int' (q _ _)
  case Mult =>
    simp only [binI] at hc
    split at hc
    · rename_i hm
      cases hc
      refine PyProof.Rows.mul_int (q _ _) ?_
      unfold mulOk at hm
      rcases Bool.or_eq_true_iff.mp hm with hm | hm
      · exact IntMulOk.of_left (intBits_le (Nat.lt_of_lt_of_le (of_decide_eq_true hm) (by decide)))
      · exact IntMulOk.of_right (intBits_le (Nat.lt_of_lt_of_le (of_decide_eq_true hm) (by decide)))
    · cases hc
  case FloorDiv =>
    simp only [binI] at hc
    split at hc
    · rename_i hb; cases hc; exact floordiv_int hb.1 (q _ _) (.inl (PyProof.noPylong_small hb.2))
    · cases hc
  case Mod =>
    simp only [binI] at hc
    split at hc
    · rename_i hb; cases hc; exact mod_int' hb (q _ _)
    · cases hc
  case Pow =>
    simp only [binI] at hc
    split at hc
    · rename_i h2
      subst h2
      split at hc
      · rename_i h3; cases hc; exact pow_int_small h3.1 (by lia) (by decide) (q _ _)
      · cases hc
    · cases hc
  case BitAnd => cases hc; exact and_int (q _ _)
end
end Mine
namespace Mine
open PySem PySem.W PySem.Calls PyProof.Rows

section
variable {cx : Cx} {n : Nat} {sc : Sc} {F F' F₁ F₂ : List (Option V)} {G G' G₁ G₂ : List O}

theorem Rep.at {B h : Heap} (l : Le B h) {v x} (r : Rep cx.prog cx.w B v x) : ∃ as, Reads h v x as :=
  let ⟨as, r⟩ := r.reads; ⟨as, Reads.keeps l r⟩

/-- two expressions, one behind the other -/
theorem two {e₁ e₂ : Expr} {v₁ v₂ : V} (h₁ : TE cx n sc e₁ F G v₁ F₁ G₁) (h₂ : TE cx n sc e₂ F₁ G₁ v₂ F' G') {A : Around} {env : Env} {s₀ s : Shared} {ρ₀ ρ : List Addr} {B : Heap} {oa : List (Option Addr)}
    {X : Value → Value → Shared → Prop} (ok : AOk n A) (R : Rel cx sc env s₀ ρ₀ F G B ρ oa s)
    (q : ∀ a b s₂ B' ρ' oa', Rel cx sc env s₀ ρ₀ F' G' B' ρ' oa' s₂ → Gr B ρ oa s.heap B' ρ' oa' s₂.heap → RepV cx B' ρ' a v₁ → RepV cx B' ρ' b v₂ → X a b s₂) :
    wpAny (model cx.prog cx.w) A (eval e₁ env) (fun a s₁ => wpAny (model cx.prog cx.w) A (eval e₂ env) (fun b s₂ => X a b s₂) (fun _ _ => False) s₁) (fun _ _ => False) s := by
  refine wpAny_mono (h₁ A env s₀ ρ₀ B ρ oa s ok R) (fun a s₁ p => ?_) fun _ _ x => x
  obtain ⟨B₁, ρ₁, oa₁, R₁, g₁, r₁⟩ := p
  refine wpAny_mono (h₂ A env s₀ ρ₀ B₁ ρ₁ oa₁ s₁ ok R₁) (fun b s₂ p => ?_) fun _ _ x => x
  obtain ⟨B₂, ρ₂, oa₂, R₂, g₂, r₂⟩ := p
  exact q a b s₂ B₂ ρ₂ oa₂ R₂ (g₁.trans g₂) (r₁.mono g₂.le g₂.pre) r₂

theorem T_binI {l r : Expr} {o op p} {a b c : Int} (h₁ : TE cx n sc l F G (.d (.int a)) F₁ G₁) (h₂ : TE cx n sc r F₁ G₁ (.d (.int b)) F' G') (ho : bopOf o = some op) (hc : binI op a b = some c) :
    TE cx n sc (.BinOp l o r p) F G (.d (.int c)) F' G' := by
  intro A env s₀ ρ₀ B ρ oa s ok R
  refine wpAny_BinOp (two h₁ h₂ ok R fun x y s₂ B' ρ' oa' R' g r₁ r₂ => ?_)
  have r₁ : Rep cx.prog cx.w B' x (.int a) := r₁
  have r₂ : Rep cx.prog cx.w B' y (.int b) := r₂
  cases r₁; cases r₂
  exact bin_int ho hc fun tk tk' => PostE.after g (PostE.tok R' _ (Rep.int _ _))

theorem lists_add {A : Around} {E : Value → Shared → Prop} {s : Shared} {l b : Addr} {us vs : Array Value} {Q : Value → Shared → Prop} (hl : s.heap.IsList l us) (hb : s.heap.IsList b vs) (hz : us.size + vs.size ≤ sizeLine)
    (h : Q (.ref s.heap.objs.size) { s with heap := s.heap.push { cls := .type "list", data := .seq (us ++ vs) } }) : wpAny (model cx.prog cx.w) A (binaryOp .Add (.ref l) (.ref b)) Q E s := by
  obtain ⟨⟨cls, dd, data, sl⟩, ho, hc, n, hd⟩ := id hl
  obtain ⟨⟨cls2, dd2, data2, sl2⟩, ho2, hc2, n2, hd2⟩ := id hb
  dsimp only at hc hd hc2 hd2
  subst hc hd hc2 hd2
  exact concat_meets ⟨_, ho, rfl⟩ ⟨_, ho2, rfl⟩ noFill_list_add seq_list_add PySem.F.slot_list_add PySem.F.entry_list_add (PySem.F.args_list_add_2 _ _) (list_addW l b us vs n n2 dd dd2 sl sl2 hz) ⟨ho, ho2, h⟩

theorem szOk_line {k : Nat} (h : szOk k = true) : k ≤ sizeLine := by
  have := of_decide_eq_true h
  rw [sizeLine_eq]; lia

/-- a list that is just pushed -/
theorem PostO.list {env : Env} {s₀ s : Shared} {ρ₀ ρ B oa} (R : Rel cx sc env s₀ ρ₀ F G B ρ oa s) {us : Array Value} {xs : List PyData} {tk : Nat} (r : RepAll cx.prog cx.w B us.toList xs) :
    PostO cx sc env s₀ ρ₀ F G B ρ oa s.heap (.ol xs) (.ref s.heap.objs.size) { s with heap := s.heap.push { cls := .type "list", data := .seq us }, toks := tk } :=
  PostO.new (a := s.heap.objs.size) R (Nat.le_refl _) (fun b o e => Heap.get?_push_of_some _ e) (by rw [Heap.get?_push_size _ rfl]; rfl) ⟨_, rfl, rfl, _, ⟨0, Heap.get?_push_size _ rfl⟩, r⟩ rfl

theorem TO_addL {l r : Expr} {p} {xs ys : List PyData} (h₁ : TE cx n sc l F G (.d (.list xs)) F₁ G₁) (h₂ : TE cx n sc r F₁ G₁ (.d (.list ys)) F' G') (hz : szOk (xs.length + ys.length) = true) :
    TO cx n sc (.BinOp l .Add r p) F G (.ol (xs ++ ys)) F' G' := by
  intro A env s₀ ρ₀ B ρ oa s ok R
  refine wpAny_BinOp (two h₁ h₂ ok R fun x y s₂ B' ρ' oa' R' g r₁ r₂ => ?_)
  have r₁ : Rep cx.prog cx.w B' x (.list xs) := r₁
  have r₂ : Rep cx.prog cx.w B' y (.list ys) := r₂
  obtain ⟨a, us, rfl, t₁, q₁⟩ := rep_list r₁
  obtain ⟨b, vs, rfl, t₂, q₂⟩ := rep_list r₂
  have hz' : us.size + vs.size ≤ sizeLine := by
    have e1 := q₁.length; have e2 := q₂.length
    simp only [Array.length_toList] at e1 e2
    rw [e1, e2]; exact szOk_line hz
  exact lists_add (plain_mono R'.g.sub t₁).isList (plain_mono R'.g.sub t₂).isList hz' (PostO.after g (PostO.list R' (by rw [Array.toList_append]; exact q₁.append q₂)))

theorem fresh_none (h : Heap) : h.get? h.objs.size = none := by
  cases e : h.get? h.objs.size with
  | none => rfl
  | some o => exact absurd (Heap.lt_size e) (Nat.lt_irrefl _)

/-! comparisons -/
theorem T_lt {l r : Expr} {p} {a b : Int} (h₁ : TE cx n sc l F G (.d (.int a)) F₁ G₁) (h₂ : TE cx n sc r F₁ G₁ (.d (.int b)) F' G') (hm : plainE r = true) : TE cx n sc (.Compare l [.Lt] [r] p) F G (.d (.bool (decide (a < b)))) F' G' := by
  intro A env s₀ ρ₀ B ρ oa s ok R
  refine wpAny_Compare1 (two h₁ h₂ ok R fun x y s₂ B' ρ' oa' R' g r₁ r₂ => ?_) (behind_plain hm)
  have r₁ : Rep cx.prog cx.w B' x (.int a) := r₁
  have r₂ : Rep cx.prog cx.w B' y (.int b) := r₂
  cases r₁; cases r₂
  exact PyProof.Rows.lt_int (PostE.after g (PostE.now R' (Rep.bool _)))
theorem T_gt {l r : Expr} {p} {a b : Int} (h₁ : TE cx n sc l F G (.d (.int a)) F₁ G₁) (h₂ : TE cx n sc r F₁ G₁ (.d (.int b)) F' G') (hm : plainE r = true) : TE cx n sc (.Compare l [.Gt] [r] p) F G (.d (.bool (decide (b < a)))) F' G' := by
  intro A env s₀ ρ₀ B ρ oa s ok R
  refine wpAny_Compare1 (two h₁ h₂ ok R fun x y s₂ B' ρ' oa' R' g r₁ r₂ => ?_) (behind_plain hm)
  have r₁ : Rep cx.prog cx.w B' x (.int a) := r₁
  have r₂ : Rep cx.prog cx.w B' y (.int b) := r₂
  cases r₁; cases r₂
  exact PyProof.Rows.gt_int (PostE.after g (PostE.now R' (Rep.bool _)))

noncomputable def eqOp (ng : Bool) : CmpOp := if ng then .NotEq else .Eq
noncomputable def inOp (ng : Bool) : CmpOp := if ng then .NotIn else .In

theorem cmp_eq {A : Around} {E : Value → Shared → Prop} {s : Shared} {a b : Value} {x y : PyData} {Q : Value → Shared → Prop} {ng z : Bool} {as bs : List Addr} (ha : Reads s.heap a x as) (hb : Reads s.heap b y bs)
    (ok : AOk n A) (hz : eqD x y = some z) (q : Q (.bool (z != ng)) s) : wpAny (model cx.prog cx.w) A (compareOp (eqOp ng) a b) Q E s := by
  unfold eqD at hz
  split at hz
  · rename_i h
    obtain ⟨h1, h2⟩ := Bool.and_eq_true_iff.mp h
    cases hz
    have hu : A.units + 64 < cLine := by have := ok.un; lia
    cases ng
    · exact SeqAt.compareEq_shaped ha hb h1 h2 hu (by simpa using q)
    · exact SeqAt.compareNe_shaped ha hb h1 h2 hu (by simpa using q)
  · cases hz

theorem T_eq {l r : Expr} {p} {x y : PyData} {z ng : Bool} (h₁ : TE cx n sc l F G (.d x) F₁ G₁) (h₂ : TE cx n sc r F₁ G₁ (.d y) F' G') (hz : eqD x y = some z) (hm : plainE r = true) :
    TE cx n sc (.Compare l [eqOp ng] [r] p) F G (.d (.bool (z != ng))) F' G' := by
  intro A env s₀ ρ₀ B ρ oa s ok R
  refine wpAny_Compare1 (two h₁ h₂ ok R fun u v s₂ B' ρ' oa' R' g r₁ r₂ => ?_) (behind_plain hm)
  obtain ⟨_, ra⟩ := Rep.at R'.g.sub r₁
  obtain ⟨_, rb⟩ := Rep.at R'.g.sub r₂
  exact cmp_eq ra rb ok hz (PostE.after g (PostE.now R' (Rep.bool _)))

theorem VarIs.fn {env : Env} {h : Heap} {x : Str} {a b : Value} (p : VarIs env h x a) (q : VarIs env h x b) : a = b := by
  rcases p with ⟨k, m, hn, hm⟩ | ⟨k, c, hc, o, ho, hd⟩ <;> rcases q with ⟨k', m', hn', hm'⟩ | ⟨k', c', hc', o', ho', hd'⟩
  · obtain ⟨o, es, ep, ho, hd, _, hf⟩ := hn
    obtain ⟨o', es', ep', ho', hd', _, hf'⟩ := hn'
    rw [ho] at ho'; cases ho'; rw [hd] at hd'; cases hd'
    rw [← hf, hf', hm'] at hm; exact (Option.some.inj hm).symm
  · rw [k] at k'; rcases k' with e | e <;> cases e
  · rw [k'] at k; rcases k with e | e <;> cases e
  · rw [hc] at hc'; cases hc'
    rw [ho] at ho'; cases ho'; rw [hd] at hd'; cases hd'; rfl

theorem VarIs.later {env : Env} {s₀ s : Shared} {ρ₀ ρ B oa B' ρ' oa' h'} (R : Rel cx sc env s₀ ρ₀ F G B ρ oa s) (g : Gr B ρ oa s.heap B' ρ' oa' h') {x : Str} {val : Value} (v : VarIs env s.heap x val) : VarIs env h' x val :=
  v.keep (fun o e => g.keep _ o R.e.lout.2.2.1 e) fun c o hc e => g.keep c o (R.e.cell x c hc).2.2.2.1 e

/-- a variable's value, then an expression; the variable's content is as it is behind the expression -/
theorem varThen {i : Nat} {x : Str} {pos : Pos} {e : Expr} {v u : V} (hx : oddName x = false) (hn : sc.nm[i]? = some (some x)) (h₂ : TE cx n sc e F G v F' G') (hu : getF F' i = some u) (hi : ∃ u₀, getF F i = some u₀)
    {A : Around} {env : Env} {s₀ s : Shared} {ρ₀ ρ : List Addr} {B : Heap} {oa : List (Option Addr)} {X : Value → Value → Shared → Prop} (ok : AOk n A) (R : Rel cx sc env s₀ ρ₀ F G B ρ oa s)
    (q : ∀ a b s₂ B' ρ' oa', Rel cx sc env s₀ ρ₀ F' G' B' ρ' oa' s₂ → Gr B ρ oa s.heap B' ρ' oa' s₂.heap → RepX cx B' ρ' s₂.heap (oa'.getD i none) a u → RepV cx B' ρ' b v → X a b s₂) :
    wpAny (model cx.prog cx.w) A (eval (.Name x pos) env) (fun a s₁ => wpAny (model cx.prog cx.w) A (eval e env) (fun b s₂ => X a b s₂) (fun _ _ => False) s₁) (fun _ _ => False) s := by
  obtain ⟨u₀, hu₀⟩ := hi
  obtain ⟨val, h1, _⟩ := R.e.vars i x u₀ hn (getF_get hu₀)
  refine load_var R.e.fn hx h1 (wpAny_mono (h₂ A env s₀ ρ₀ B ρ oa s ok R) (fun b s₂ p => ?_) fun _ _ x => x)
  obtain ⟨B', ρ', oa', R', g, r⟩ := p
  obtain ⟨val', h1', h2'⟩ := R'.e.vars i x u hn (getF_get hu)
  have e := (h1.later R g).fn h1'
  subst e
  exact q val b s₂ B' ρ' oa' R' g h2' r

theorem repX_reads {B h : Heap} {ρ : List Addr} {o : Option Addr} {val : Value} {u : V} {x : PyData} (l : Le B h) (r : RepX cx B ρ h o val u) (hm : (moved u).bind asD = some x) : ∃ as, Reads h val x as := by
  cases u with
  | d y => cases hm; exact Rep.at l r
  | ol xs =>
    cases hm
    obtain ⟨a, _, rfl, vs, ⟨o, ho⟩, q⟩ := r
    obtain ⟨as, q⟩ := (q.mono l).reads
    exact ⟨_, .list ho rfl rfl q⟩
  | od kvs =>
    cases hm
    obtain ⟨a, _, rfl, kv, hd, q⟩ := r
    exact Rep.at (Le.refl h) (Rep.dict (prog := cx.prog) (w := cx.w) hd ((repVals_kv q).mono l))
  | _ => cases hm

theorem T_eqv {i : Nat} {x : Str} {r : Expr} {pos p} {u : V} {a y : PyData} {z ng : Bool} (hx : oddName x = false) (hn : sc.nm[i]? = some (some x)) (h₂ : TE cx n sc r F G (.d y) F' G') (hu : getF F' i = some u) (hi : ∃ u₀, getF F i = some u₀)
    (ha : (moved u).bind asD = some a) (hz : eqD a y = some z) (hm : plainE r = true) : TE cx n sc (.Compare (.Name x pos) [eqOp ng] [r] p) F G (.d (.bool (z != ng))) F' G' := by
  intro A env s₀ ρ₀ B ρ oa s ok R
  refine wpAny_Compare1 (varThen hx hn h₂ hu hi ok R fun v b s₂ B' ρ' oa' R' g r₁ r₂ => ?_) (behind_plain hm)
  obtain ⟨_, ra⟩ := repX_reads R'.g.sub r₁ ha
  obtain ⟨_, rb⟩ := Rep.at R'.g.sub r₂
  exact cmp_eq ra rb ok hz (PostE.after g (PostE.now R' (Rep.bool _)))
end
end Mine
namespace Mine
open PySem PySem.W PySem.Calls PyProof.Rows

section
variable {cx : Cx} {n : Nat} {sc : Sc} {F F' F₁ F₂ : List (Option V)} {G G' G₁ G₂ : List O}

theorem repKv_vals {B : Heap} {kv : List (Int × Value)} {xs : List (PyData × PyData)} {q : List (Int × PyData)} (h : RepKv cx.prog cx.w B kv xs) (hq : asKvs xs = some q) : RepVals cx B kv q := by
  induction kv generalizing xs q with
  | nil => cases h; cases hq; exact .nil
  | cons p kv ih =>
    cases h with
    | cons x r =>
      simp only [asKvs, Option.map_eq_some_iff] at hq
      obtain ⟨q, hq, rfl⟩ := hq
      exact .cons x (ih r hq)
theorem vals_some {B : Heap} {kv : List (Int × Value)} {kvs : List (Int × PyData)} (r : RepVals cx B kv kvs) (k : Int) : (∀ x, dget kvs k = some x → ∃ v, valueAt kv k = some v ∧ Rep cx.prog cx.w B v x) ∧ (dget kvs k = none → valueAt kv k = none) := by
  induction r with
  | nil => exact ⟨(fun x h => by cases h), fun _ => rfl⟩
  | @cons k' v vs d ds rv _ ih =>
    by_cases hk : k' = k
    · subst hk
      refine ⟨fun x h => ?_, fun h => ?_⟩
      · simp [dget] at h; subst h; exact ⟨v, by simp [valueAt], rv⟩
      · simp [dget] at h
    · have e1 : dget ((k', d) :: ds) k = dget ds k := by simp [dget, hk]
      have e2 : valueAt ((k', v) :: vs) k = valueAt vs k := by simp [valueAt, hk]
      rw [e1, e2]; exact ih
theorem vals_isSome {B : Heap} {kv : List (Int × Value)} {kvs : List (Int × PyData)} (r : RepVals cx B kv kvs) (k : Int) : (valueAt kv k).isSome = (dget kvs k).isSome := by
  cases h : dget kvs k with
  | none => rw [(vals_some r k).2 h]; rfl
  | some x => obtain ⟨v, hv, _⟩ := (vals_some r k).1 x h; rw [hv]; rfl
theorem valsS_some {B : Heap} {kv : List (Str × Value)} {kvs : List (Str × PyData)} (r : RepValsS cx B kv kvs) (k : Str) : ∀ x, dgetS kvs k = some x → ∃ v, valueAt kv k = some v ∧ Rep cx.prog cx.w B v x := by
  induction r with
  | nil => exact fun x h => by cases h
  | @cons k' v vs d ds rv _ ih =>
    by_cases hk : k' = k
    · subst hk
      intro x h
      simp [dgetS] at h; subst h; exact ⟨v, by simp [valueAt], rv⟩
    · have e1 : dgetS ((k', d) :: ds) k = dgetS ds k := by simp [dgetS, hk]
      have e2 : valueAt ((k', v) :: vs) k = valueAt vs k := by simp [valueAt, hk]
      rw [e1, e2]; exact ih

theorem beq_sys {a : Addr} (h : a ≠ sysModules) : (a == sysModules) = false := by simpa using h

theorem in_of_notin {A : Around} {E : Value → Shared → Prop} {s : Shared} {a b : Value} {Q : Value → Shared → Prop} {M : Model} (h : wpAny M A (compareOp .In a b) (fun v s' => ∃ c, v = .bool c ∧ Q (.bool (!c)) s') E s) :
    wpAny M A (compareOp .NotIn a b) Q E s := by
  have h : wpAny M A (contains b a >>= fun c => pure (Value.bool c)) (fun v s' => ∃ c, v = .bool c ∧ Q (.bool (!c)) s') E s := h
  show wpAny M A (contains b a >>= fun c => pure (Value.bool (!c))) Q E s
  intro Γ p hΓ
  have h := h Γ p hΓ
  rw [Sem.wp_bind'] at h ⊢
  refine Sem.wp_mono M Γ _ (fun c p' s' hc => ?_) (fun _ _ _ x => x) _ _ h
  obtain ⟨c', e, q⟩ := hc
  cases e; exact q

theorem cmp_in {A : Around} {E : Value → Shared → Prop} {s : Shared} {a b : Value} {z ng : Bool} {Q : Value → Shared → Prop} {M : Model} (q : ∀ tk, Q (.bool (z != ng)) { s with toks := tk })
    (h : wpAny M A (compareOp .In a b) (fun v s' => v = .bool z ∧ ∃ tk, s' = { s with toks := tk }) E s) : wpAny M A (compareOp (inOp ng) a b) Q E s := by
  cases ng with
  | false => exact wpAny_mono h (fun v s' e => by obtain ⟨rfl, tk, rfl⟩ := e; simpa using q tk) fun _ _ x => x
  | true => exact in_of_notin (wpAny_mono h (fun v s' e => by obtain ⟨rfl, tk, rfl⟩ := e; exact ⟨z, rfl, by simpa using q tk⟩) fun _ _ x => x)

theorem in_di {A : Around} {E : Value → Shared → Prop} {s : Shared} {B : Heap} {a : Addr} {i : Int} {t : Tok} {kvs : List (Int × PyData)} (hs : a ≠ sysModules) (d : DiAt cx B s.heap a kvs) :
    wpAny (model cx.prog cx.w) A (compareOp .In (.int i t) (.ref a)) (fun v s' => v = .bool (dget kvs i).isSome ∧ ∃ tk, s' = { s with toks := tk }) E s := by
  obtain ⟨kv, hd, r⟩ := d
  exact wpAny_in_of (intKind_is _ _ _ _) (beq_sys hs) hd.mapOf ⟨by rw [vals_isSome r], _, rfl⟩

theorem in_listAt {A : Around} {E : Value → Shared → Prop} {s : Shared} {B : Heap} {a : Addr} {v : Value} {x : PyData} {xs : List PyData} (ok : AOk n A) (l : Le B s.heap) (d : ListAt cx B s.heap a xs) (r : Rep cx.prog cx.w B v x)
    (h1 : okD x = true) (h2 : PyData.canLayAll0 xs = true) :
    wpAny (model cx.prog cx.w) A (compareOp .In v (.ref a)) (fun u s' => u = .bool (xs.any fun y => PyData.eqv y x) ∧ ∃ tk, s' = { s with toks := tk }) E s := by
  obtain ⟨vs, ⟨m, ho⟩, q⟩ := d
  obtain ⟨as, q⟩ := (q.mono l).reads
  obtain ⟨bs, r⟩ := Rep.at l r
  refine SeqAt.in_list_reads (.list ho rfl rfl q) r h2 (SeqAt.canLay_of_shaped h1) ?_ ⟨rfl, s.toks, rfl⟩
  have e := SeqAt.depth_of_shaped h1
  have := ok.un
  have : min (PyData.depthAll xs) x.depth ≤ x.depth := Nat.min_le_right _ _
  lia

theorem tupKey_of_rep {B : Heap} {v : Value} {ys : List PyData} {q : List Int} (r : Rep cx.prog cx.w B v (.tuple ys)) (h : asInts ys = some q) : ∃ a, v = .ref a ∧ IsTupleKey (intKind cx.prog cx.w) B q a := by
  obtain ⟨a, vs, rfl, ht, hr⟩ := rep_tuple r
  clear r
  obtain ⟨o, ho, hc, m, hd⟩ := ht
  refine ⟨a, rfl, o, vs, m, ho, hc, hd, ?_⟩
  clear hd
  generalize vs.toList = l at hr
  induction l generalizing ys q with
  | nil => cases hr; cases h; exact .nil
  | cons v l ih =>
    cases hr with | @cons _ _ d ds x r =>
    simp only [asInts, Option.bind_eq_some_iff, Option.map_eq_some_iff] at h
    obtain ⟨i, hi, q', hq, rfl⟩ := h
    obtain rfl := asInt_eq hi
    obtain ⟨_, rfl⟩ := rep_int x
    exact .cons (intKind_is _ _ _ _) (ih hq r)

theorem repT_get {B : Heap} {xs : List (List Int × Addr × Value)} {kvs : List (List Int × Int)} (r : RepT cx B xs kvs) (k : List Int) : (dgetT kvs k = none → atKey xs k = none) ∧ ∀ i, dgetT kvs k = some i → ∃ a t, atKey xs k = some (a, .int i t) := by
  induction r with
  | nil => exact ⟨fun _ => rfl, (fun i h => by cases h)⟩
  | @cons k' a i t es ds _ _ ih =>
    by_cases hk : k' = k
    · subst hk
      exact ⟨fun h => by simp [dgetT] at h, fun j h => by simp [dgetT] at h; subst h; exact ⟨a, t, by simp [atKey]⟩⟩
    · have e1 : dgetT ((k', i) :: ds) k = dgetT ds k := by simp [dgetT, hk]
      have e2 : atKey ((k', a, Value.int i t) :: es) k = atKey es k := by simp [atKey, hk]
      rw [e1, e2]; exact ih
theorem repT_keys {B : Heap} {xs : List (List Int × Addr × Value)} {kvs : List (List Int × Int)} (r : RepT cx B xs kvs) : xs.map (·.1) = kvs.map (·.1) := by
  induction r with
  | nil => rfl
  | cons _ _ ih => simp [ih]
theorem repT_is {B : Heap} {xs : List (List Int × Addr × Value)} {kvs : List (List Int × Int)} (r : RepT cx B xs kvs) : ∀ x ∈ xs, IsTupleKey (intKind cx.prog cx.w) B x.1 x.2.1 := by
  induction r with
  | nil => intro x h; cases h
  | cons a _ ih => intro x h; rcases List.mem_cons.mp h with rfl | h; exact a; exact ih x h
theorem dtAt_dict {B h : Heap} {a : Addr} {kvs : List (List Int × Int)} (l : Le B h) (d : DtAt cx B h a kvs) : ∃ xs, h.DictOfH (tupleKind (intKind cx.prog cx.w)) a xs ∧ RepT cx B xs kvs := by
  obtain ⟨o, es, ep, xs, h1, h2, h3, h4, h5, h6⟩ := d
  exact ⟨xs, ⟨o, es, ep, h1, h2, h3, h4, fun x hx => tupKey_mono (cx := cx) l (repT_is h5 x hx), by rw [repT_keys h5]; exact h6⟩, h5⟩

theorem in_dt {A : Around} {E : Value → Shared → Prop} {s : Shared} {B : Heap} {a b : Addr} {q : List Int} {kvs : List (List Int × Int)} (ok : AOk n A) (hs : a ≠ sysModules) (l : Le B s.heap) (d : DtAt cx B s.heap a kvs) (hk : IsTupleKey (intKind cx.prog cx.w) B q b) :
    wpAny (model cx.prog cx.w) A (compareOp .In (.ref b) (.ref a)) (fun v s' => v = .bool (dgetT kvs q).isSome ∧ ∃ tk, s' = { s with toks := tk }) E s := by
  obtain ⟨xs, hd, r⟩ := dtAt_dict l d
  refine wpAny_in_heap (knd := tupleKind (intKind cx.prog cx.w)) (tupleKind_room_in1 (by have := ok.un; lia)) (tupKey_mono (cx := cx) l hk) (beq_sys hs) hd ⟨?_, _, rfl⟩
  cases e : dgetT kvs q with
  | none => rw [(repT_get r q).1 e]; rfl
  | some i => obtain ⟨_, _, e'⟩ := (repT_get r q).2 i e; rw [e']; rfl

theorem if_some {α : Type} {c : Bool} {a z : α} (h : (if c = true then some a else none) = some z) : c = true ∧ a = z := by
  cases c with
  | true => exact ⟨rfl, Option.some.inj h⟩
  | false => cases h
theorem inO_dt {x : PyData} {kvs} {z : Bool} (h : inO x (.dt kvs) = some z) : ∃ ys q, x = .tuple ys ∧ asInts ys = some q ∧ (dgetT kvs q).isSome = z := by
  cases x with
  | tuple ys => obtain ⟨q, hq, e⟩ := Option.map_eq_some_iff.mp h; exact ⟨ys, q, rfl, hq, e⟩
  | _ => cases h
theorem inD_ol {x : PyData} {ys : List PyData} {z : Bool} (h : inD x (.ol ys) = some z) : okD x = true ∧ PyData.canLayAll0 ys = true ∧ (ys.any fun y => PyData.eqv y x) = z :=
  let ⟨a, b⟩ := if_some h; ⟨(Bool.and_eq_true_iff.mp a).1, (Bool.and_eq_true_iff.mp a).2, b⟩
theorem inD_d {x y : PyData} {z : Bool} (h : inD x (.d y) = some z) : (∃ ys, y = .list ys ∧ inD x (.ol ys) = some z) ∨ ∃ kvs i q, y = .dict kvs ∧ asInt x = some i ∧ asKvs kvs = some q ∧ (dget q i).isSome = z := by
  cases y with
  | list ys => exact .inl ⟨ys, rfl, h⟩
  | dict kvs =>
    obtain ⟨i, hi, h⟩ := Option.bind_eq_some_iff.mp h
    obtain ⟨q, hq, e⟩ := Option.map_eq_some_iff.mp h
    exact .inr ⟨kvs, i, q, rfl, hi, hq, e⟩
  | _ => cases h

/-- «in», whatever the container -/
theorem in_any {A : Around} {env : Env} {s₀ s : Shared} {ρ₀ ρ : List Addr} {B : Heap} {oa : List (Option Addr)} (ok : AOk n A) (R : Rel cx sc env s₀ ρ₀ F G B ρ oa s) {v c : Value} {x : PyData} {u : V} {z : Bool} {o : Option Addr} (r : Rep cx.prog cx.w B v x)
    (rc : RepX cx B ρ s.heap o c u) (hz : inG G x u = some z) (ho : ∀ a, o = some a → a ≠ sysModules) :
    wpAny (model cx.prog cx.w) A (compareOp .In v c) (fun w s' => w = .bool z ∧ ∃ tk, s' = { s with toks := tk }) (fun _ _ => False) s := by
  have l := R.g.sub
  cases u with
  | h m =>
    obtain ⟨a, ha, rfl⟩ := rc
    simp only [inG, Option.bind_eq_some_iff] at hz
    obtain ⟨ob, hob, hz⟩ := hz
    obtain ⟨a', ha', hobj⟩ := R.g.obj m ob hob
    rw [ha] at ha'; cases ha'
    have hs := (R.g.out a (List.mem_of_getElem? ha)).2.2
    cases ob with
    | di kvs =>
      simp only [inO, Option.map_eq_some_iff] at hz
      obtain ⟨i, hi, rfl⟩ := hz
      obtain rfl := asInt_eq hi
      obtain ⟨_, rfl⟩ := rep_int r
      exact in_di hs hobj
    | dt kvs =>
      obtain ⟨ys, q, rfl, hq, rfl⟩ := inO_dt hz
      obtain ⟨b, rfl, hk⟩ := tupKey_of_rep r hq
      exact in_dt ok hs l hobj hk
    | _ => cases hz
  | d y =>
    have rc : Rep cx.prog cx.w B c y := rc
    rcases inD_d hz with ⟨ys, rfl, hz⟩ | ⟨kvs, i, q, rfl, hi, hq, rfl⟩
    · obtain ⟨h1, h2, rfl⟩ := inD_ol hz
      obtain ⟨_, _, rfl, hl, hr⟩ := rep_list rc
      exact in_listAt ok l ⟨_, plain_mono l hl, hr⟩ r h1 h2
    · obtain rfl := asInt_eq hi
      obtain ⟨_, rfl⟩ := rep_int r
      obtain ⟨a, kv, rfl, hd, hk⟩ := rep_dict rc
      clear rc
      refine in_di (cx := cx) (B := B) (fun e => ?_) ⟨kv, hd.keep l, repKv_vals hk hq⟩
      obtain ⟨_, _, _, e', _⟩ := hd
      rw [e, R.g.bsys] at e'; cases e'
  | ol ys =>
    obtain ⟨a, e, rfl, hl⟩ := rc
    obtain ⟨h1, h2, rfl⟩ := inD_ol hz
    exact in_listAt ok l hl r h1 h2
  | rl ys =>
    obtain ⟨a, e, rfl, hl⟩ := rc
    obtain ⟨h1, h2, rfl⟩ := inD_ol hz
    exact in_listAt ok l hl r h1 h2
  | od kvs =>
    obtain ⟨a, e, rfl, hl⟩ := rc
    simp only [inG, inD, Option.map_eq_some_iff] at hz
    obtain ⟨i, hi, rfl⟩ := hz
    obtain rfl := asInt_eq hi
    obtain ⟨_, rfl⟩ := rep_int r
    exact in_di (ho a e) hl
  | rd kvs =>
    obtain ⟨a, e, rfl, hl⟩ := rc
    simp only [inG, inD, Option.map_eq_some_iff] at hz
    obtain ⟨i, hi, rfl⟩ := hz
    obtain rfl := asInt_eq hi
    obtain ⟨_, rfl⟩ := rep_int r
    exact in_di (ho a e) hl
  | _ => cases hz

theorem repV_X {B h : Heap} {ρ : List Addr} {o : Option Addr} {val : Value} {v : V} (r : RepV cx B ρ val v) : RepX cx B ρ h o val v := by
  cases v <;> first | exact r | exact r.elim

theorem T_isin {l r : Expr} {p} {x : PyData} {u : V} {z ng : Bool} (h₁ : TE cx n sc l F G (.d x) F₁ G₁) (h₂ : TE cx n sc r F₁ G₁ u F' G') (hz : inG G' x u = some z) (hm : plainE r = true) :
    TE cx n sc (.Compare l [inOp ng] [r] p) F G (.d (.bool (z != ng))) F' G' := by
  intro A env s₀ ρ₀ B ρ oa s ok R
  refine wpAny_Compare1 (two h₁ h₂ ok R fun u v s₂ B' ρ' oa' R' g r₁ r₂ => ?_) (behind_plain hm)
  exact cmp_in (fun tk => PostE.after g (PostE.tok R' tk (Rep.bool _))) (in_any (o := none) ok R' r₁ (repV_X r₂) hz fun a e => by cases e)

theorem T_isinv {l : Expr} {j : Nat} {y : Str} {pos p} {x : PyData} {u : V} {z ng : Bool} (hy : oddName y = false) (hn : sc.nm[j]? = some (some y)) (h₁ : TE cx n sc l F G (.d x) F' G') (hu : getF F' j = some u) (hz : inG G' x u = some z) :
    TE cx n sc (.Compare l [inOp ng] [.Name y pos] p) F G (.d (.bool (z != ng))) F' G' := by
  intro A env s₀ ρ₀ B ρ oa s ok R
  refine wpAny_Compare1 (wpAny_mono (h₁ A env s₀ ρ₀ B ρ oa s ok R) (fun a s₁ p => ?_) fun _ _ x => x) rfl
  obtain ⟨B₁, ρ₁, oa₁, R₁, g₁, r₁⟩ := p
  obtain ⟨val, h1, h2⟩ := R₁.e.vars j y u hn (getF_get hu)
  refine load_var R₁.e.fn hy h1 ?_
  exact cmp_in (fun tk => PostE.after g₁ (PostE.tok R₁ tk (Rep.bool _))) (in_any ok R₁ r₁ h2 hz fun a e => (R₁.e.own j a e).2.2.2.2.2.2)
end
end Mine
namespace Mine
open PySem PySem.W PySem.Calls PyProof.Rows

section
variable {cx : Cx} {n : Nat} {sc : Sc} {F F' F₁ F₂ : List (Option V)} {G G' G₁ G₂ : List O}

theorem sub_plain {e : Expr} {o i : Value} (h : plainE e = true) : subscripted e false o i = operate [o, i] (getItem o i) := by cases e <;> first | rfl | cases h

theorem idxL_some {xs : List PyData} {i : Int} {z : PyData} (h : idxL xs i = some z) : -(2 ^ 62) < i ∧ i < 2 ^ 62 ∧ ((0 ≤ i ∧ xs[i.toNat]? = some z) ∨ (i < 0 ∧ -(xs.length : Int) ≤ i ∧ xs[(i + xs.length).toNat]? = some z)) := by
  unfold idxL at h
  split at h
  · rename_i hb
    refine ⟨by lia, by lia, ?_⟩
    simp only [Option.bind_eq_some_iff] at h
    obtain ⟨j, hj, hz⟩ := h
    unfold pos? at hj
    split at hj
    · rename_i h0
      split at hj
      · cases hj; exact .inl ⟨h0, hz⟩
      · cases hj
    · rename_i h0
      split at hj
      · cases hj; exact .inr ⟨by lia, by lia, hz⟩
      · cases hj
  · cases h

/-- an item is read -/
noncomputable def Item (cx : Cx) (B : Heap) (z : PyData) (s : Shared) (v : Value) (s' : Shared) : Prop := Rep cx.prog cx.w B v z ∧ ∃ tk, s' = { s with toks := tk }

theorem item_list' {A : Around} {E : Value → Shared → Prop} {s : Shared} {B : Heap} {a : Addr} {vs : Array Value} {xs : List PyData} {i : Int} {t : Tok} {z : PyData} (hl : s.heap.IsList a vs) (r : RepAll cx.prog cx.w B vs.toList xs) (h : idxL xs i = some z) :
    wpAny (model cx.prog cx.w) A (getItem (.ref a) (.int i t)) (Item cx B z s) E s := by
  obtain ⟨h1, h2, h3⟩ := idxL_some h
  have e := r.length
  rcases h3 with ⟨h0, hz⟩ | ⟨h0, h4, hz⟩
  · obtain ⟨v, hv, rv⟩ := r.get hz
    exact wpAny_getItem_list hl h0 (by lia) (by simpa using hv) ⟨rv, s.toks, rfl⟩
  · obtain ⟨v, hv, rv⟩ := r.get hz
    simp only [Array.length_toList] at e
    exact wpAny_getItem_list_neg hl h0 (by lia) (by lia) (by rw [e]; simpa using hv) ⟨rv, s.toks, rfl⟩
theorem item_tup' {A : Around} {E : Value → Shared → Prop} {s : Shared} {B : Heap} {a : Addr} {vs : Array Value} {xs : List PyData} {i : Int} {t : Tok} {z : PyData} (hl : IsTup s.heap a vs) (r : RepAll cx.prog cx.w B vs.toList xs) (h : idxL xs i = some z) :
    wpAny (model cx.prog cx.w) A (getItem (.ref a) (.int i t)) (Item cx B z s) E s := by
  obtain ⟨h1, h2, h3⟩ := idxL_some h
  have e := r.length
  simp only [Array.length_toList] at e
  rcases h3 with ⟨h0, hz⟩ | ⟨h0, h4, hz⟩
  · obtain ⟨v, hv, rv⟩ := r.get hz
    have hlt : i.toNat < xs.length := (List.getElem?_eq_some_iff.mp hz).1
    refine PyProof.Rows.getItem_tuple (j := i.toNat) hl (by lia) (by lia) ?_ (by simpa using hv) ⟨rv, s.toks, rfl⟩
    simp only [seqIndex?, show ¬ i < 0 from by lia, if_false]
    rw [if_pos (by simp only [Bool.and_eq_true, decide_eq_true_eq]; lia)]
  · obtain ⟨v, hv, rv⟩ := r.get hz
    refine PyProof.Rows.getItem_tuple (j := (i + xs.length).toNat) hl (by lia) (by lia) ?_ (by simpa using hv) ⟨rv, s.toks, rfl⟩
    rw [e]; exact seqIndex_neg h0 h4
theorem item_di {A : Around} {E : Value → Shared → Prop} {s : Shared} {B : Heap} {a : Addr} {kvs : List (Int × PyData)} {i : Int} {t : Tok} {z : PyData} (d : DiAt cx B s.heap a kvs) (h : dget kvs i = some z) :
    wpAny (model cx.prog cx.w) A (getItem (.ref a) (.int i t)) (Item cx B z s) E s := by
  obtain ⟨kv, hd, r⟩ := d
  obtain ⟨v, hv, rv⟩ := (vals_some r i).1 z h
  exact wpAny_getItem_of (intKind_is _ _ _ _) hd.mapOf hv ⟨rv, _, rfl⟩

theorem tail_of {value slice : Expr} {o i : Value} {T id : String} {A : Around} {E : Value → Shared → Prop} {s : Shared} {Q : Value → Shared → Prop} (hp : plainE slice = true) (hT : s.TypeIs o T)
    (hl : typeLookup (.type T) "__getitem__" = pure (some (.builtin id))) (hg : wpAny (model cx.prog cx.w) A (getItem o i) Q E s) : wpAny (model cx.prog cx.w) A (subscriptTail value slice o i) Q E s :=
  tail_any hT hl hg (sub_plain hp)

/-- o[i], whatever o -/
theorem idxO_ds {y : PyData} {kvs} {z : PyData} (h : idxO y (.ds kvs) = some z) : ∃ x, y = .str x ∧ dgetS kvs x = some z := by
  cases y with
  | str x => exact ⟨x, rfl, h⟩
  | _ => cases h
theorem idxO_dt {y : PyData} {kvs} {z : PyData} (h : idxO y (.dt kvs) = some z) : ∃ ys q j, y = .tuple ys ∧ asInts ys = some q ∧ dgetT kvs q = some j ∧ PyData.int j = z := by
  cases y with
  | tuple ys =>
    obtain ⟨q, hq, h⟩ := Option.bind_eq_some_iff.mp h
    obtain ⟨j, hj, e⟩ := Option.map_eq_some_iff.mp h
    exact ⟨ys, q, j, rfl, hq, hj, e⟩
  | _ => cases h
theorem idxV_d {y x z : PyData} (h : idxV y (.d x) = some z) : (∃ xs, x = .list xs ∧ (asInt y).bind (idxL xs) = some z) ∨ (∃ xs k, x = .tuple xs ∧ asInt y = some k ∧ idxL xs k = some z) ∨ ∃ kvs q, x = .dict kvs ∧ asKvs kvs = some q ∧ (asInt y).bind (dget q) = some z := by
  cases x with
  | list xs => exact .inl ⟨xs, rfl, h⟩
  | tuple xs =>
    obtain ⟨k, hk, h⟩ := Option.bind_eq_some_iff.mp h
    exact .inr (.inl ⟨xs, k, rfl, hk, h⟩)
  | dict kvs =>
    obtain ⟨k, hk, h⟩ := Option.bind_eq_some_iff.mp h
    obtain ⟨q, hq, h⟩ := Option.bind_eq_some_iff.mp h
    exact .inr (.inr ⟨kvs, q, rfl, hq, by rw [hk]; exact h⟩)
  | _ => cases h
theorem idx_any {A : Around} {env : Env} {s₀ s : Shared} {ρ₀ ρ : List Addr} {B : Heap} {oa : List (Option Addr)} (ok : AOk n A) (R : Rel cx sc env s₀ ρ₀ F G B ρ oa s) {value slice : Expr} {c i : Value} {y z : PyData} {u : V} {o : Option Addr}
    (hp : plainE slice = true) (rc : RepX cx B ρ s.heap o c u) (ri : Rep cx.prog cx.w B i y) (hz : idxG G y u = some z) :
    wpAny (model cx.prog cx.w) A (subscriptTail value slice c i) (Item cx B z s) (fun _ _ => False) s := by
  have l := R.g.sub
  have listCase : ∀ {a : Addr} {xs : List PyData}, ListAt cx B s.heap a xs → (asInt y).bind (idxL xs) = some z → wpAny (model cx.prog cx.w) A (subscriptTail value slice (.ref a) i) (Item cx B z s) (fun _ _ => False) s := by
    intro a xs hl h
    simp only [Option.bind_eq_some_iff] at h
    obtain ⟨k, hk, h⟩ := h
    obtain rfl := asInt_eq hk
    obtain ⟨_, rfl⟩ := rep_int ri
    obtain ⟨vs, hl, r⟩ := hl
    exact tail_of hp hl.isList.typeIs slot_list_getitem.lookup (item_list' hl.isList r h)
  have dictCase : ∀ {a : Addr} {kvs : List (Int × PyData)}, DiAt cx B s.heap a kvs → (asInt y).bind (dget kvs) = some z → wpAny (model cx.prog cx.w) A (subscriptTail value slice (.ref a) i) (Item cx B z s) (fun _ _ => False) s := by
    intro a kvs hl h
    simp only [Option.bind_eq_some_iff] at h
    obtain ⟨k, hk, h⟩ := h
    obtain rfl := asInt_eq hk
    obtain ⟨_, rfl⟩ := rep_int ri
    obtain ⟨kv, hd, r⟩ := id hl
    exact tail_of hp hd.mapOf.typeIs slot_dict_getitem.lookup (item_di hl h)
  cases u with
  | h m =>
    obtain ⟨a, ha, rfl⟩ := rc
    simp only [idxG, Option.bind_eq_some_iff] at hz
    obtain ⟨ob, hob, hz⟩ := hz
    obtain ⟨a', ha', hobj⟩ := R.g.obj m ob hob
    rw [ha] at ha'; cases ha'
    cases ob with
    | list xs => exact listCase hobj hz
    | di kvs => exact dictCase hobj hz
    | ds kvs =>
      obtain ⟨_, rfl, hz⟩ := idxO_ds hz
      obtain ⟨_, rfl⟩ := rep_str ri
      obtain ⟨kv, hd, r⟩ := hobj
      obtain ⟨v, hv, rv⟩ := valsS_some r _ z hz
      exact tail_of hp hd.mapOf.typeIs slot_dict_getitem.lookup (wpAny_getItem_of (strKind_is _ _ _ _) hd.mapOf hv ⟨rv, _, rfl⟩)
    | dt kvs =>
      obtain ⟨_, q, j, rfl, hq, hj, rfl⟩ := idxO_dt hz
      obtain ⟨b, rfl, hk⟩ := tupKey_of_rep ri hq
      obtain ⟨xs, hd, r⟩ := dtAt_dict l hobj
      obtain ⟨a', t', e'⟩ := (repT_get r q).2 j hj
      exact tail_of hp hd.typeIs slot_dict_getitem.lookup (wpAny_getItem_heap (knd := tupleKind (intKind cx.prog cx.w)) (tupleKind_room_in1 (by have := ok.un; lia)) (tupKey_mono (cx := cx) l hk) hd e' ⟨Rep.int _ _, _, rfl⟩)
  | d x =>
    have rc : Rep cx.prog cx.w B c x := rc
    rcases idxV_d hz with ⟨xs, rfl, hz⟩ | ⟨xs, k, rfl, hk, h⟩ | ⟨xs, q, rfl, hq, hz⟩
    · obtain ⟨_, _, rfl, hl, hr⟩ := rep_list rc
      exact listCase ⟨_, plain_mono l hl, hr⟩ hz
    · obtain ⟨_, _, rfl, hl, hr⟩ := rep_tuple rc
      obtain rfl := asInt_eq hk
      obtain ⟨_, rfl⟩ := rep_int ri
      have hl := isTup_mono l hl
      exact tail_of hp hl.typeIs slot_tuple_getitem.lookup (item_tup' hl hr h)
    · obtain ⟨_, _, rfl, hd, hr⟩ := rep_dict rc
      exact dictCase ⟨_, hd.keep l, repKv_vals hr hq⟩ hz
  | ol xs => obtain ⟨a, e, rfl, hl⟩ := rc; exact listCase hl hz
  | rl xs => obtain ⟨a, e, rfl, hl⟩ := rc; exact listCase hl hz
  | od xs => obtain ⟨a, e, rfl, hl⟩ := rc; exact dictCase hl hz
  | rd xs => obtain ⟨a, e, rfl, hl⟩ := rc; exact dictCase hl hz
  | _ => cases hz

theorem T_idx {a i : Expr} {p} {u : V} {y z : PyData} (h₁ : TE cx n sc a F G u F₁ G₁) (h₂ : TE cx n sc i F₁ G₁ (.d y) F' G') (hz : idxG G' y u = some z) (hm : plainE i = true) : TE cx n sc (.Subscript a i p) F G (.d z) F' G' := by
  intro A env s₀ ρ₀ B ρ oa s ok R
  refine Subscript_ (two h₁ h₂ ok R fun u v s₂ B' ρ' oa' R' g r₁ r₂ => ?_)
  exact wpAny_mono (idx_any (o := none) ok R' hm (repV_X r₁) r₂ hz) (fun v s' q => by obtain ⟨rv, tk, rfl⟩ := q; exact PostE.after g (PostE.tok R' tk rv)) fun _ _ x => x

theorem T_idxv {j : Nat} {x : Str} {pos} {i : Expr} {p} {u : V} {y z : PyData} (hx : oddName x = false) (hn : sc.nm[j]? = some (some x)) (h₂ : TE cx n sc i F G (.d y) F' G') (hu : getF F' j = some u) (hi : ∃ u₀, getF F j = some u₀) (hz : idxG G' y u = some z) (hm : plainE i = true) :
    TE cx n sc (.Subscript (.Name x pos) i p) F G (.d z) F' G' := by
  intro A env s₀ ρ₀ B ρ oa s ok R
  refine Subscript_ (varThen hx hn h₂ hu hi ok R fun u v s₂ B' ρ' oa' R' g r₁ r₂ => ?_)
  exact wpAny_mono (idx_any ok R' hm r₁ r₂ hz) (fun v s' q => by obtain ⟨rv, tk, rfl⟩ := q; exact PostE.after g (PostE.tok R' tk rv)) fun _ _ x => x

/-! and, or, if, truth -/
/-- how isTrue goes for the plain ones -/
noncomputable def plainT : Expr → Bool
  | .UnaryOp .Not _ _ | .BoolOp .. | .IfExp .. | .Compare .. => false
  | _ => true
theorem isTrue_of_plain {e : Expr} {env : Env} {whole : Sem Value} (h : plainT e = true) : isTrue e env whole = (do let v ← whole; standAt e.pos; holding [v] (truthy v)) := by
  cases e <;> first | rfl | (cases h; done) | skip
  case UnaryOp op x p => cases op <;> first | rfl | cases h
theorem B_plain {e : Expr} {b : Bool} (h : TE cx n sc e F G (.d (.bool b)) F' G') (hp : plainT e = true) : TB cx n sc e F G b F' G' := by
  intro A env s₀ ρ₀ B ρ oa s ok R
  refine isTrue_plain (wpAny_mono (h A env s₀ ρ₀ B ρ oa s ok R) (fun v s₁ q => ?_) fun _ _ x => x) (isTrue_of_plain hp)
  obtain ⟨B₁, ρ₁, oa₁, R₁, g₁, r₁⟩ := q
  have r' : Rep cx.prog cx.w B₁ v (.bool b) := r₁
  cases r'
  exact wpAny_truthy_bool ⟨B₁, ρ₁, oa₁, R₁, g₁, r₁⟩
theorem B_cmp {l r : Expr} {op : CmpOp} {p} {b : Bool} (h : TE cx n sc (.Compare l [op] [r] p) F G (.d (.bool b)) F' G') (hm : plainE r = true) : TB cx n sc (.Compare l [op] [r] p) F G b F' G' := by
  intro A env s₀ ρ₀ B ρ oa s ok R
  have h := h A env s₀ ρ₀ B ρ oa s ok R
  have e : isTrue (.Compare l [op] [r] p) env (eval (.Compare l [op] [r] p) env) = (do let a ← eval l env; let b ← holding [a] (eval r env); standAt p; let c ← operate [a, b] (compareOp op a b); holding [c] (truthy c)) := by
    rw [isTrue_Compare1, markedBehindIn_of_false (behind_plain hm)]
  rw [e]
  have e' : eval (.Compare l [op] [r] p) env = (do let a ← eval l env; let b ← holding [a] (eval r env); standAt p; operate [a, b] (compareOp op a b)) := by
    rw [eval_Compare1, markedBehindIn_of_false (behind_plain hm)]
  rw [e'] at h
  intro Γ p' hΓ
  have h := h Γ p' hΓ
  simp only [Sem.wp_bind', Sem.wp_holding, Sem.wp_cmd_standAt, Sem.wp_operate] at h ⊢
  refine Sem.wp_mono _ Γ _ (fun a p₁ s₁ h₁ => Sem.wp_mono _ Γ _ (fun b' p₂ s₂ h₂ => Sem.wp_mono _ Γ _ (fun c p₃ s₃ h₃ => ?_) (fun _ _ _ h' => h') _ _ h₂) (fun _ _ _ h' => h') _ _ h₁) (fun _ _ _ h' => h') _ _ h
  obtain ⟨B₁, ρ₁, oa₁, R₁, g₁, r₁⟩ := h₃
  have r' : Rep cx.prog cx.w B₁ c (.bool b) := r₁
  cases r'
  exact wpAny_truthy_bool (M := model cx.prog cx.w) (A := A) (E := fun _ _ => False) (Q := fun c s' => PostE cx sc env s₀ ρ₀ F' G' B ρ oa s.heap (.d (.bool b)) (.bool c) s') ⟨B₁, ρ₁, oa₁, R₁, g₁, r₁⟩ Γ p₃ hΓ
theorem B_and {a b : Expr} {p} {c d : Bool} (h₁ : TB cx n sc a F G c F₁ G₁) (h₂ : if c then TB cx n sc b F₁ G₁ d F' G' else (d = false ∧ F' = F₁ ∧ G' = G₁)) : TB cx n sc (.BoolOp .And [a, b] p) F G d F' G' := by
  intro A env s₀ ρ₀ B ρ oa s ok R
  refine isTrue_and (wpAny_mono (h₁ A env s₀ ρ₀ B ρ oa s ok R) (fun c' s₁ q => ?_) fun _ _ x => x)
  obtain ⟨B₁, ρ₁, oa₁, R₁, g₁, r₁⟩ := q
  have r' : Rep cx.prog cx.w B₁ (.bool c') (.bool c) := r₁
  cases r'
  cases c with
  | false => obtain ⟨rfl, rfl, rfl⟩ := h₂; exact PostE.after g₁ (PostE.now R₁ (Rep.bool _))
  | true =>
    refine isTrue_and (wpAny_mono (h₂ A env s₀ ρ₀ B₁ ρ₁ oa₁ s₁ ok R₁) (fun c' s₂ q => ?_) fun _ _ x => x)
    obtain ⟨B₂, ρ₂, oa₂, R₂, g₂, r₂⟩ := q
    have r' : Rep cx.prog cx.w B₂ (.bool c') (.bool d) := r₂
    cases r'
    cases d with
    | false => exact ⟨B₂, ρ₂, oa₂, R₂, g₁.trans g₂, r₂⟩
    | true => exact isTrue_and_nil ⟨B₂, ρ₂, oa₂, R₂, g₁.trans g₂, r₂⟩
theorem B_or {a b : Expr} {p} {c d : Bool} (h₁ : TB cx n sc a F G c F₁ G₁) (h₂ : if c then (d = true ∧ F' = F₁ ∧ G' = G₁) else TB cx n sc b F₁ G₁ d F' G') : TB cx n sc (.BoolOp .Or [a, b] p) F G d F' G' := by
  intro A env s₀ ρ₀ B ρ oa s ok R
  refine isTrue_or (wpAny_mono (h₁ A env s₀ ρ₀ B ρ oa s ok R) (fun c' s₁ q => ?_) fun _ _ x => x)
  obtain ⟨B₁, ρ₁, oa₁, R₁, g₁, r₁⟩ := q
  have r' : Rep cx.prog cx.w B₁ (.bool c') (.bool c) := r₁
  cases r'
  cases c with
  | true => obtain ⟨rfl, rfl, rfl⟩ := h₂; exact PostE.after g₁ (PostE.now R₁ (Rep.bool _))
  | false =>
    refine isTrue_or (wpAny_mono (h₂ A env s₀ ρ₀ B₁ ρ₁ oa₁ s₁ ok R₁) (fun c' s₂ q => ?_) fun _ _ x => x)
    obtain ⟨B₂, ρ₂, oa₂, R₂, g₂, r₂⟩ := q
    have r' : Rep cx.prog cx.w B₂ (.bool c') (.bool d) := r₂
    cases r'
    cases d with
    | true => exact ⟨B₂, ρ₂, oa₂, R₂, g₁.trans g₂, r₂⟩
    | false => exact isTrue_or_nil ⟨B₂, ρ₂, oa₂, R₂, g₁.trans g₂, r₂⟩
theorem T_ite {c a b : Expr} {p} {z : Bool} {v : V} (h₁ : TB cx n sc c F G z F₁ G₁) (h₂ : if z then TE cx n sc a F₁ G₁ v F' G' else TE cx n sc b F₁ G₁ v F' G') : TE cx n sc (.IfExp c a b p) F G v F' G' := by
  intro A env s₀ ρ₀ B ρ oa s ok R
  refine IfExp_ (wpAny_mono (h₁ A env s₀ ρ₀ B ρ oa s ok R) (fun c' s₁ q => ?_) fun _ _ x => x)
  obtain ⟨B₁, ρ₁, oa₁, R₁, g₁, r₁⟩ := q
  have r' : Rep cx.prog cx.w B₁ (.bool c') (.bool z) := r₁
  cases r'
  cases z with
  | true => exact wpAny_mono (h₂ A env s₀ ρ₀ B₁ ρ₁ oa₁ s₁ ok R₁) (fun v s₂ q => PostE.after g₁ q) fun _ _ x => x
  | false => exact wpAny_mono (h₂ A env s₀ ρ₀ B₁ ρ₁ oa₁ s₁ ok R₁) (fun v s₂ q => PostE.after g₁ q) fun _ _ x => x
end
end Mine
namespace Mine
open PySem PySem.W PySem.Calls PyProof.Rows

section
variable {cx : Cx} {n : Nat} {sc : Sc} {F F' F₁ F₂ : List (Option V)} {G G' G₁ G₂ : List O}

theorem load_glob {A : Around} {env : Env} {s₀ s : Shared} {ρ₀ ρ B oa} (R : Rel cx sc env s₀ ρ₀ F G B ρ oa s) {f : Str} {v : Value} {pos : Pos} {Q : Value → Shared → Prop} {E : Value → Shared → Prop} (hk : sc.kind f = some .globalImplicit) (ho : oddName f = false)
    (hn : nsIn cx.K mainGlobals f = some (some v)) (q : Q v s) : wpAny (model cx.prog cx.w) A (eval (.Name f pos) env) Q E s := by
  have k : env.kindOf f = some .globalImplicit := R.e.kinds f _ hk
  refine Name_function_global R.e.fn k ?_ (ne_debug ho)
  unfold loadGlobal
  rw [R.e.gl]
  exact wpAny_bind (looks_nsIn R.g.ok.inK hn A _ E s R.g.base (wpAny_pure q))
theorem load_blt {A : Around} {env : Env} {s₀ s : Shared} {ρ₀ ρ B oa} (R : Rel cx sc env s₀ ρ₀ F G B ρ oa s) {f : Str} {v : Value} {pos : Pos} {Q : Value → Shared → Prop} {E : Value → Shared → Prop} (hk : sc.kind f = some .globalImplicit) (ho : oddName f = false)
    (hn : nsIn cx.K mainGlobals f = some none) (hb : bltOf f = some v) (q : Q v s) : wpAny (model cx.prog cx.w) A (eval (.Name f pos) env) Q E s := by
  have k : env.kindOf f = some .globalImplicit := R.e.kinds f _ hk
  refine Name_function_global R.e.fn k ?_ (ne_debug ho)
  unfold loadGlobal
  rw [R.e.gl, R.e.bl]
  obtain ⟨mb, h1, h2⟩ := R.g.ok.blt
  refine wpAny_bind (looks_nsIn R.g.ok.inK hn A _ E s R.g.base (wpAny_bind (wpAny_nsGet (h1.keeps R.g.base) ?_)))
  rw [h2 f v hb]
  exact wpAny_pure q

/-- a built-in name, free to be used -/
structure Blt (cx : Cx) (sc : Sc) (f : Str) (v : Value) : Prop where
  k : sc.kind f = some .globalImplicit
  o : oddName f = false
  n : nsIn cx.K mainGlobals f = some none
  b : bltOf f = some v

theorem star1 {e : Expr} {env : Env} (hp : plainE e = true) : starEach [e] env = (false, eval e env) :: starEach [] env := star_plain hp

/-- a call of a built-in name with one argument -/
theorem call1 {f : Str} {fv : Value} {e : Expr} {np p : Pos} {env : Env} {A : Around} {s₀ s : Shared} {ρ₀ ρ B oa} {Q : Value → Shared → Prop} (b : Blt cx sc f fv) (hfv : (∃ i, fv = .builtin i) ∨ ∃ t, fv = .type t) (hp : plainE e = true) (R : Rel cx sc env s₀ ρ₀ F G B ρ oa s)
    (h : wpAny (model cx.prog cx.w) A (eval e env) (fun v s₁ => wpAny (model cx.prog cx.w) A (call fv [v]) Q (fun _ _ => False) s₁) (fun _ _ => False) s) :
    wpAny (model cx.prog cx.w) A (eval (.Call (.Name f np) [e] [] p) env) Q (fun _ _ => False) s := by
  refine Call_ (load_blt R b.k b.o b.n b.b ?_)
  have inner : wpAny (model cx.prog cx.w) A (spliced (backTo p (starEach [e] env))) (fun vs s₁ => wpAny (model cx.prog cx.w) A (call fv vs) Q (fun _ _ => False) s₁) (fun _ _ => False) s :=
    args_cons (wpAny_mono h (fun v s₁ h₁ => args_nil h₁) fun _ _ x => x) (star1 hp)
  rcases hfv with ⟨i, rfl⟩ | ⟨t, rfl⟩
  · exact PyProof.Rows.callWith_builtin1 inner (star1 hp)
  · exact PyProof.Rows.callWith_type1 inner (star1 hp)

theorem call2 {f : Str} {fv : Value} {e₁ e₂ : Expr} {np p : Pos} {env : Env} {A : Around} {s₀ s : Shared} {ρ₀ ρ B oa} {Q : Value → Shared → Prop} (b : Blt cx sc f fv) (hfv : ∃ t, fv = .type t) (hp : plainE e₁ = true) (hp2 : plainE e₂ = true) (R : Rel cx sc env s₀ ρ₀ F G B ρ oa s)
    (h : wpAny (model cx.prog cx.w) A (eval e₁ env) (fun v s₁ => wpAny (model cx.prog cx.w) A (eval e₂ env) (fun u s₂ => wpAny (model cx.prog cx.w) A (call fv [v, u]) Q (fun _ _ => False) s₂) (fun _ _ => False) s₁) (fun _ _ => False) s) :
    wpAny (model cx.prog cx.w) A (eval (.Call (.Name f np) [e₁, e₂] [] p) env) Q (fun _ _ => False) s := by
  refine Call_ (load_blt R b.k b.o b.n b.b ?_)
  have inner : wpAny (model cx.prog cx.w) A (spliced (backTo p (starEach [e₁, e₂] env))) (fun vs s₁ => wpAny (model cx.prog cx.w) A (call fv vs) Q (fun _ _ => False) s₁) (fun _ _ => False) s :=
    args_cons (wpAny_mono h (fun v s₁ h₁ => args_cons (wpAny_mono h₁ (fun u s₂ h₂ => args_nil h₂) fun _ _ x => x) (star1 hp2)) fun _ _ x => x) (star_plain hp)
  obtain ⟨t, rfl⟩ := hfv
  exact PyProof.Rows.callWith_type1 inner (star_plain hp) (by rw [star1 hp2]; rfl)

theorem T_abs {e : Expr} {np p} {i : Int} (b : Blt cx sc "abs" (.builtin "abs")) (hp : plainE e = true) (h : TE cx n sc e F G (.d (.int i)) F' G') : TE cx n sc (.Call (.Name "abs" np) [e] [] p) F G (.d (.int i.natAbs)) F' G' := by
  intro A env s₀ ρ₀ B ρ oa s ok R
  refine call1 b (.inl ⟨_, rfl⟩) hp R (wpAny_mono (h A env s₀ ρ₀ B ρ oa s ok R) (fun v s₁ q => ?_) fun _ _ x => x)
  obtain ⟨B₁, ρ₁, oa₁, R₁, g₁, r₁⟩ := q
  have r' : Rep cx.prog cx.w B₁ v (.int i) := r₁
  cases r'
  refine call_abs_int fun u tk => PostE.after g₁ (PostE.tok R₁ tk ?_)
  rw [show (if i < 0 then -i else i) = (i.natAbs : Int) by split <;> lia]
  exact Rep.int _ _

theorem T_intb {e : Expr} {np p} {c : Bool} (b : Blt cx sc "int" (.type "int")) (hp : plainE e = true) (h : TE cx n sc e F G (.d (.bool c)) F' G') : TE cx n sc (.Call (.Name "int" np) [e] [] p) F G (.d (.int (if c then 1 else 0))) F' G' := by
  intro A env s₀ ρ₀ B ρ oa s ok R
  refine call1 b (.inr ⟨_, rfl⟩) hp R (wpAny_mono (h A env s₀ ρ₀ B ρ oa s ok R) (fun v s₁ q => ?_) fun _ _ x => x)
  obtain ⟨B₁, ρ₁, oa₁, R₁, g₁, r₁⟩ := q
  have r' : Rep cx.prog cx.w B₁ v (.bool c) := r₁
  cases r'
  exact call_int_bool (PostE.after g₁ (PostE.tok R₁ _ (Rep.int _ _)))

theorem lenV_d {x : PyData} {k : Nat} (h : lenV (.d x) = some k) : (∃ xs, x = .list xs ∧ (if szOk xs.length then some xs.length else none) = some k) ∨ ∃ xs, x = .tuple xs ∧ (if szOk xs.length then some xs.length else none) = some k := by
  cases x with
  | list xs => exact .inl ⟨xs, rfl, h⟩
  | tuple xs => exact .inr ⟨xs, rfl, h⟩
  | _ => cases h
theorem len_any {A : Around} {env : Env} {s₀ s : Shared} {ρ₀ ρ : List Addr} {B : Heap} {oa : List (Option Addr)} (R : Rel cx sc env s₀ ρ₀ F G B ρ oa s) {c : Value} {u : V} {o : Option Addr} {k : Nat} (rc : RepX cx B ρ s.heap o c u) (hz : lenG G u = some k) :
    wpAny (model cx.prog cx.w) A (call (.builtin "len") [c]) (fun v s' => (∃ t, v = .int k t) ∧ ∃ tk, s' = { s with toks := tk }) (fun _ _ => False) s := by
  have l := R.g.sub
  have listCase : ∀ {a : Addr} {xs : List PyData}, ListAt cx B s.heap a xs → szOk xs.length = true → xs.length = k → wpAny (model cx.prog cx.w) A (call (.builtin "len") [.ref a]) (fun v s' => (∃ t, v = .int k t) ∧ ∃ tk, s' = { s with toks := tk }) (fun _ _ => False) s := by
    intro a xs hl hs hk
    obtain ⟨vs, hl, r⟩ := hl
    have e := r.length
    simp only [Array.length_toList] at e
    have := szOk_line hs
    rw [sizeLine_eq] at this
    exact PyProof.Rows.len_list hl.isList (by lia) ⟨⟨_, by rw [e, hk]⟩, _, rfl⟩
  have part : ∀ {xs : List PyData}, (if szOk xs.length then some xs.length else none) = some k → szOk xs.length = true ∧ xs.length = k := by
    intro xs h
    split at h
    · rename_i h1; exact ⟨h1, Option.some.inj h⟩
    · cases h
  cases u with
  | h m =>
    obtain ⟨a, ha, rfl⟩ := rc
    simp only [lenG, Option.bind_eq_some_iff] at hz
    obtain ⟨ob, hob, hz⟩ := hz
    obtain ⟨a', ha', hobj⟩ := R.g.obj m ob hob
    rw [ha] at ha'; cases ha'
    cases ob with
    | list xs => obtain ⟨h1, h2⟩ := part hz; exact listCase hobj h1 h2
    | _ => cases hz
  | d x =>
    have rc : Rep cx.prog cx.w B c x := rc
    rcases lenV_d hz with ⟨xs, rfl, hz⟩ | ⟨xs, rfl, hz⟩
    · obtain ⟨h1, h2⟩ := part hz
      obtain ⟨_, _, rfl, hl, hr⟩ := rep_list rc
      exact listCase ⟨_, plain_mono l hl, hr⟩ h1 h2
    · obtain ⟨h1, h2⟩ := part hz
      obtain ⟨a, vs, rfl, ht, hr⟩ := rep_tuple rc
      have e := hr.length
      simp only [Array.length_toList] at e
      have := szOk_line h1
      rw [sizeLine_eq] at this
      exact PyProof.Rows.len_tuple (isTup_mono l ht) (by lia) ⟨⟨_, by rw [e, h2]⟩, _, rfl⟩
  | ol xs => obtain ⟨a, e, rfl, hl⟩ := rc; obtain ⟨h1, h2⟩ := part hz; exact listCase hl h1 h2
  | rl xs => obtain ⟨a, e, rfl, hl⟩ := rc; obtain ⟨h1, h2⟩ := part hz; exact listCase hl h1 h2
  | _ => cases hz

theorem T_len {e : Expr} {np p} {u : V} {k : Nat} (b : Blt cx sc "len" (.builtin "len")) (hp : plainE e = true) (h : TE cx n sc e F G u F' G') (hz : lenG G' u = some k) : TE cx n sc (.Call (.Name "len" np) [e] [] p) F G (.d (.int k)) F' G' := by
  intro A env s₀ ρ₀ B ρ oa s ok R
  refine call1 b (.inl ⟨_, rfl⟩) hp R (wpAny_mono (h A env s₀ ρ₀ B ρ oa s ok R) (fun v s₁ q => ?_) fun _ _ x => x)
  obtain ⟨B₁, ρ₁, oa₁, R₁, g₁, r₁⟩ := q
  exact wpAny_mono (len_any (o := none) R₁ (repV_X r₁) hz) (fun v s₂ q => by obtain ⟨⟨t, rfl⟩, tk, rfl⟩ := q; exact PostE.after g₁ (PostE.tok R₁ tk (Rep.int _ _))) fun _ _ x => x
theorem T_lenv {j : Nat} {x : Str} {pos np p} {u : V} {k : Nat} (b : Blt cx sc "len" (.builtin "len")) (hx : oddName x = false) (hn : sc.nm[j]? = some (some x)) (hu : getF F j = some u) (hz : lenG G u = some k) : TE cx n sc (.Call (.Name "len" np) [.Name x pos] [] p) F G (.d (.int k)) F G := by
  intro A env s₀ ρ₀ B ρ oa s ok R
  obtain ⟨val, h1, h2⟩ := R.e.vars j x u hn (getF_get hu)
  refine call1 b (.inl ⟨_, rfl⟩) rfl R (load_var R.e.fn hx h1 ?_)
  exact wpAny_mono (len_any R h2 hz) (fun v s₂ q => by obtain ⟨⟨t, rfl⟩, tk, rfl⟩ := q; exact PostE.tok R tk (Rep.int _ _)) fun _ _ x => x

theorem T_range1 {e : Expr} {np p} {k : Int} (b : Blt cx sc "range" (.type "range")) (hp : plainE e = true) (h : TE cx n sc e F G (.d (.int k)) F' G') : TE cx n sc (.Call (.Name "range" np) [e] [] p) F G (.rng 0 k) F' G' := by
  intro A env s₀ ρ₀ B ρ oa s ok R
  refine call1 b (.inr ⟨_, rfl⟩) hp R (wpAny_mono (h A env s₀ ρ₀ B ρ oa s ok R) (fun v s₁ q => ?_) fun _ _ x => x)
  obtain ⟨B₁, ρ₁, oa₁, R₁, g₁, r₁⟩ := q
  have r' : Rep cx.prog cx.w B₁ v (.int k) := r₁
  cases r'
  refine call_range_1 (PostE.after g₁ (PostE.newB (a := s₁.heap.objs.size) R₁ (Nat.le_refl _) (fun b o e => Heap.get?_push_of_some _ e) (Heap.get?_push_size _ rfl) fun B' l e => ⟨_, _, _, _, rfl, e⟩))
theorem T_range2 {e₁ e₂ : Expr} {np p} {i k : Int} (b : Blt cx sc "range" (.type "range")) (hp : plainE e₁ = true) (hp2 : plainE e₂ = true) (h₁ : TE cx n sc e₁ F G (.d (.int i)) F₁ G₁) (h₂ : TE cx n sc e₂ F₁ G₁ (.d (.int k)) F' G') :
    TE cx n sc (.Call (.Name "range" np) [e₁, e₂] [] p) F G (.rng i k) F' G' := by
  intro A env s₀ ρ₀ B ρ oa s ok R
  refine call2 b ⟨_, rfl⟩ hp hp2 R (two h₁ h₂ ok R fun x y s₂ B' ρ' oa' R' g r₁ r₂ => ?_)
  have r₁ : Rep cx.prog cx.w B' x (.int i) := r₁
  have r₂ : Rep cx.prog cx.w B' y (.int k) := r₂
  cases r₁; cases r₂
  exact call_range_2 (PostE.after g (PostE.newB (a := s₂.heap.objs.size) R' (Nat.le_refl _) (fun b o e => Heap.get?_push_of_some _ e) (Heap.get?_push_size _ rfl) fun B' l e => ⟨_, _, _, _, rfl, e⟩))

/-! displays -/
theorem TL_nil : TL cx n sc [] F G [] F G := by
  intro A env s₀ ρ₀ B ρ oa s pos ok R
  exact args_nil ⟨B, ρ, oa, R, Gr.refl .., .nil⟩
theorem TL_cons {e : Expr} {r : List Expr} {x : PyData} {xs : List PyData} (hp : plainE e = true) (h₁ : TE cx n sc e F G (.d x) F₁ G₁) (h₂ : TL cx n sc r F₁ G₁ xs F' G') : TL cx n sc (e :: r) F G (x :: xs) F' G' := by
  intro A env s₀ ρ₀ B ρ oa s pos ok R
  refine args_cons (wpAny_mono (h₁ A env s₀ ρ₀ B ρ oa s ok R) (fun v s₁ q => ?_) fun _ _ x => x) (star_plain hp)
  obtain ⟨B₁, ρ₁, oa₁, R₁, g₁, r₁⟩ := q
  refine wpAny_mono (h₂ A env s₀ ρ₀ B₁ ρ₁ oa₁ s₁ pos ok R₁) (fun vs s₂ q => ?_) fun _ _ x => x
  obtain ⟨B₂, ρ₂, oa₂, R₂, g₂, r₂⟩ := q
  exact ⟨B₂, ρ₂, oa₂, R₂, g₁.trans g₂, .cons (Rep.mono g₂.le r₁) r₂⟩
theorem T_tup {es : List Expr} {k p} {xs : List PyData} (h : TL cx n sc es F G xs F' G') (hz : xs.length ≤ sizeLine) : TE cx n sc (.Tuple es k p) F G (.d (.tuple xs)) F' G' := by
  intro A env s₀ ρ₀ B ρ oa s ok R
  refine Tuple_ (wpAny_mono (h A env s₀ ρ₀ B ρ oa s p ok R) (fun vs s₁ q => ?_) fun _ _ x => x)
  obtain ⟨B₁, ρ₁, oa₁, R₁, g₁, r₁⟩ := q
  refine wpAny_newObj_type (PostE.after g₁ (PostE.newB (a := s₁.heap.objs.size) (tk := s₁.toks) R₁ (Nat.le_refl _) (fun b o e => Heap.get?_push_of_some _ e) (Heap.get?_push_size _ rfl) fun B' l e => .tuple ⟨_, e, rfl, 0, rfl⟩ (by simpa using r₁.mono l))) ?_
  show vs.toArray.size ≤ sizeLine
  rw [List.size_toArray, r₁.length]; exact hz
theorem TO_lst {es : List Expr} {p} {xs : List PyData} (h : TL cx n sc es F G xs F' G') (hz : xs.length ≤ sizeLine) : TO cx n sc (.List es p) F G (.ol xs) F' G' := by
  intro A env s₀ ρ₀ B ρ oa s ok R
  refine List_ (wpAny_mono (h A env s₀ ρ₀ B ρ oa s p ok R) (fun vs s₁ q => ?_) fun _ _ x => x)
  obtain ⟨B₁, ρ₁, oa₁, R₁, g₁, r₁⟩ := q
  refine wpAny_newObj_type (PostO.after g₁ (PostO.list (tk := s₁.toks) R₁ (by simpa using r₁))) ?_
  show vs.toArray.size ≤ sizeLine
  rw [List.size_toArray, r₁.length]; exact hz

/-- what a made thing holds under a name -/
noncomputable def fldStr : Fld → Str
  | .kinds => "kinds" | .parts_now => "parts_now" | .known => "known" | .circuit => "circuit" | .inputs => "inputs" | .plans => "plans" | .supports => "supports"
end
end Mine
namespace Mine
open PySem PySem.W PySem.Calls PyProof.Rows

section
variable {cx : Cx} {n : Nat} {sc : Sc} {F F' F₁ F₂ : List (Option V)} {G G' G₁ G₂ : List O}

theorem eval_attr {e : Expr} {f : Str} {p : Pos} {env : Env} (h : attrBase e = true) : eval (.Attribute e f p) env = (do
      let o ← eval e env
      standAt p.atName
      let r ← holding [o] (getAttr o f true)
      letTemporaryGo e o r
      pure r) := by cases e <;> first | rfl | cases h

theorem get_K {A : Around} {E : Value → Shared → Prop} {s : Shared} {B : Heap} {C x dx : Addr} {es : List DictEntry} {m : Nat} {f : Str} {v : Value} {Q : Value → Shared → Prop} (X : cx.K.In s.heap) (hg : plainGet cx.K C "" = true) (hh : hasDictIn cx.K C = true)
    (hf : findIn cx.K (.ref C) f = some none) (l : Le B s.heap) (hx : B.get? x = some (instObj C dx)) (hd : B.get? dx = some (dictOf es m)) (hl : getL f es = some (some v)) (hv : handedIn v = true) (q : Q v { s with toks := s.toks + 1 }) :
    wpAny (model cx.prog cx.w) A (getAttr (.ref x) f true) Q E s :=
  get_value X (od := some (dictOf es m)) ⟨l _ _ hx, rfl, rfl, l _ _ hd⟩ (plainGet_of hg).1 (findObj_own hh hf rfl hl) hv q

theorem getL_here {f : Str} {P t v es} : getL f (fieldE P f t v :: es) = some (some v) := by
  unfold getL fieldE
  simp [Value.isStr]
theorem getL_there {f g : Str} {P t v es} (h : (g == f) = false) (hr : getL f es = some (some u)) : getL f (fieldE P g t v :: es) = some (some u) := by
  unfold getL fieldE at *
  rw [List.find?_cons]
  simp only [show (Value.str g t).isStr f = (g == f) from rfl, h]
  cases e : List.find? (fun x => x.key.isStr f) es with
  | some e' => simp only [e] at hr; simpa using hr
  | none =>
    simp only [e] at hr
    split at hr <;> cases hr

theorem rep_handed {B : Heap} {v : Value} {x : PyData} (r : Rep cx.prog cx.w B v x) : handedIn v = true := by cases r <;> rfl

theorem T_attr {e : Expr} {f : Fld} {p} {u z : V} (hb : attrBase e = true) (h : TE cx n sc e F G u F' G') (hz : fieldOf f u = some z) : TE cx n sc (.Attribute e (fldStr f) p) F G z F' G' := by
  intro A env s₀ ρ₀ B ρ oa s ok R
  refine Attribute_any_ (wpAny_mono (h A env s₀ ρ₀ B ρ oa s ok R) (fun v s₁ q => ?_) fun _ _ x => x) (eval_attr hb)
  obtain ⟨B₁, ρ₁, oa₁, R₁, g₁, r₁⟩ := q
  have X := Frag.In.keeps R₁.g.ok.inK R₁.g.base
  cases u with
  | circ k q m =>
    have r₁ : CircIs cx B₁ ρ₁ v k q m := r₁
    cases r₁ with | mk h1 h2 h3 h4 h5 =>
    cases f <;> cases hz
    case circ.mk.kinds.refl =>
      exact get_K X R₁.g.ok.gC R₁.g.ok.hC (R₁.g.ok.fC _ (by simp [fldStr])) R₁.g.sub h4 h5 getL_here rfl (PostE.after g₁ (PostE.tok R₁ _ ⟨_, h1, rfl⟩))
    case circ.mk.parts_now.refl =>
      exact get_K X R₁.g.ok.gC R₁.g.ok.hC (R₁.g.ok.fC _ (by simp [fldStr])) R₁.g.sub h4 h5 (getL_there rfl getL_here) rfl (PostE.after g₁ (PostE.tok R₁ _ ⟨_, h2, rfl⟩))
    case circ.mk.known.refl =>
      exact get_K X R₁.g.ok.gC R₁.g.ok.hC (R₁.g.ok.fC _ (by simp [fldStr])) R₁.g.sub h4 h5 (getL_there rfl (getL_there rfl getL_here)) rfl (PostE.after g₁ (PostE.tok R₁ _ ⟨_, h3, rfl⟩))
  | ctr k q m inp kn pl su =>
    have r₁ : CtrIs cx B₁ ρ₁ v k q m inp kn pl su := r₁
    cases r₁ with | mk h1 h2 h3 hc hi h4 h5 =>
    cases f <;> cases hz
    case ctr.mk.circuit.refl =>
      refine get_K X R₁.g.ok.gT R₁.g.ok.hT (R₁.g.ok.fT _ (by simp [fldStr])) R₁.g.sub h4 h5 getL_here ?_ (PostE.after g₁ (PostE.tok R₁ _ hc))
      cases hc; rfl
    case ctr.mk.inputs.refl =>
      exact get_K X R₁.g.ok.gT R₁.g.ok.hT (R₁.g.ok.fT _ (by simp [fldStr])) R₁.g.sub h4 h5 (getL_there rfl getL_here) (rep_handed hi) (PostE.after g₁ (PostE.tok R₁ _ hi))
    case ctr.mk.known.refl =>
      exact get_K X R₁.g.ok.gT R₁.g.ok.hT (R₁.g.ok.fT _ (by simp [fldStr])) R₁.g.sub h4 h5 (getL_there rfl (getL_there rfl getL_here)) rfl (PostE.after g₁ (PostE.tok R₁ _ ⟨_, h1, rfl⟩))
    case ctr.mk.plans.refl =>
      exact get_K X R₁.g.ok.gT R₁.g.ok.hT (R₁.g.ok.fT _ (by simp [fldStr])) R₁.g.sub h4 h5 (getL_there rfl (getL_there rfl (getL_there rfl getL_here))) rfl (PostE.after g₁ (PostE.tok R₁ _ ⟨_, h2, rfl⟩))
    case ctr.mk.supports.refl =>
      exact get_K X R₁.g.ok.gT R₁.g.ok.hT (R₁.g.ok.fT _ (by simp [fldStr])) R₁.g.sub h4 h5 (getL_there rfl (getL_there rfl (getL_there rfl (getL_there rfl getL_here)))) rfl (PostE.after g₁ (PostE.tok R₁ _ ⟨_, h3, rfl⟩))
  | _ => cases hz

/-! dict displays -/
theorem TO_dict0 {p} : TO cx n sc (.Dict [] [] p) F G (.od []) F G := by
  intro A env s₀ ρ₀ B ρ oa s ok R
  refine wpAny_Dict_empty ?_
  exact PostO.new (tk := s.toks) (a := s.heap.objs.size) R (Nat.le_refl _) (fun b o e => Heap.get?_push_of_some _ e) (by rw [Heap.get?_push_size _ rfl]; rfl) ⟨_, rfl, rfl, [], Heap.DictOf.new s.heap, .nil⟩ rfl
end
end Mine
namespace Mine
open PySem PySem.W PySem.Calls PyProof.Rows

section
variable {cx : Cx} {n : Nat} {sc : Sc} {F F' F₁ F₂ : List (Option V)} {G G' G₁ G₂ : List O} {B h h' : Heap} {ρ : List Addr} {env : Env} {oa : List (Option Addr)}

theorem ERel.at {s₀ : Heap} (x : ERel cx sc env s₀ F B ρ oa h) {d : Addr} (hd : d ≠ env.locals) (hc : ∀ y c, env.cells.lookup y = some c → c ≠ d) (k : ∀ b o, b ≠ d → h.get? b = some o → h'.get? b = some o)
    (kd : (∀ i : Nat, oa.getD i none ≠ some d) ∨ (h'.get? d).isSome)
    (vs : ∀ (i : Nat) (y : Str) (v : V), sc.nm[i]? = some (some y) → F'[i]? = some (some v) → ∃ v₀, F[i]? = some (some v₀) ∧ (∀ val, RepX cx B ρ h (oa.getD i none) val v₀ → RepX cx B ρ h' (oa.getD i none) val v))
    (os : ∀ (i : Nat) (v : V), F'[i]? = some (some v) → v.owned = true → ∃ v₀, F[i]? = some (some v₀) ∧ v₀.owned = true) :
    ERel cx sc env s₀ F' B ρ oa h' where
  fn := x.fn
  gl := x.gl
  bl := x.bl
  kinds := x.kinds
  ns := let ⟨m, q⟩ := x.ns; ⟨m, q.at' fun o e => k _ _ (Ne.symm hd) e⟩
  lout := x.lout
  cell := fun y c hl => let ⟨⟨v, o, ho, q⟩, r⟩ := x.cell y c hl; ⟨⟨v, o, k _ _ (hc y c hl) ho, q⟩, r⟩
  hasC := x.hasC
  inj := x.inj
  nmInj := x.nmInj
  vars := fun i y v hi hv => by
    obtain ⟨v₀, h1, h2⟩ := vs i y v hi hv
    obtain ⟨val, a1, a2⟩ := x.vars i y v₀ hi h1
    exact ⟨val, a1.keep (fun o e => k _ _ (Ne.symm hd) e) (fun c o hl e => k _ _ (hc _ c hl) e), h2 val a2⟩
  own := fun i a ha => by
    obtain ⟨a0, r⟩ := x.own i a ha
    refine ⟨?_, r⟩
    by_cases e : a = d
    · subst e
      rcases kd with q | q
      · exact absurd ha (q i)
      · exact q
    · obtain ⟨o, ho⟩ := Option.isSome_iff_exists.mp a0; rw [k a o e ho]; rfl
  ownI := fun i v a hv ho ha => let ⟨v₀, h1, h2⟩ := os i v hv ho; x.ownI i v₀ a h1 h2 ha

theorem GRel.at (x : GRel cx G B ρ h) {d : Addr} (hB : B.get? d = none) (hb : cx.base.get? d = none) (k : ∀ b o, b ≠ d → h.get? b = some o → h'.get? b = some o) (hl : G'.length = G.length)
    (ob : ∀ (m : Nat) (o : O), G'[m]? = some o → (∃ a, ρ[m]? = some a ∧ a ≠ d ∧ G[m]? = some o) ∨ (ρ[m]? = some d ∧ ObjAt cx B h' d o)) : GRel cx G' B ρ h' where
  ok := x.ok
  base := fun a o e => k a o (by first | exact ne_get e (hb) | exact ne_iss e (hb) | exact ne_get (hb) e | (rintro rfl; rw [hb] at e; cases e)) (x.base a o e)
  sub := fun a o e => k a o (by first | exact ne_get e (hB) | exact ne_iss e (hB) | exact ne_get (hB) e | (rintro rfl; rw [hB] at e; cases e)) (x.sub a o e)
  nd := x.nd
  out := x.out
  bsys := x.bsys
  len := hl.trans x.len
  obj := fun m o hm => by
    rcases ob m o hm with ⟨a, h1, h2, h3⟩ | ⟨h1, h2⟩
    · obtain ⟨a', e, r⟩ := x.obj m o h3
      rw [h1] at e; cases e
      exact ⟨a, h1, r.mono (Le.refl B) fun o e => k a o h2 e⟩
    · exact ⟨d, h1, h2⟩

theorem Free.later {B' ρ' oa'} {d : Addr} (f : Free cx env B ρ oa d) (g : Gr B ρ oa h B' ρ' oa' h') (hs : (h.get? d).isSome) : Free cx env B' ρ' oa' d where
  b := g.nB d f.r f.b hs f.o
  base := f.base
  r := fun q => by
    rcases g.newR d q with q | q
    · exact f.r q
    · rw [q] at hs; cases hs
  o := fun i e => f.o i (g.oaS i d e)
  l := f.l
  c := f.c
  n := f.n

/-- an object that is nobody's changes -/
theorem Rel.setFree {s₀ s : Shared} {ρ₀ : List Addr} (R : Rel cx sc env s₀ ρ₀ F G B ρ oa s) {d : Addr} (f : Free cx env B ρ oa d) (h0 : s₀.heap.get? d = none) (k : ∀ b o, b ≠ d → s.heap.get? b = some o → h'.get? b = some o)
    {tk : Nat} : Rel cx sc env s₀ ρ₀ F G B ρ oa { s with heap := h', toks := tk } := by
  obtain ⟨h0', t0, rfl⟩ := R.same
  refine { same := ⟨h', tk, rfl⟩, keep := fun b o hb e => k b o (by first | exact ne_get e (h0) | exact ne_iss e (h0) | exact ne_get (h0) e | (rintro rfl; rw [h0] at e; cases e)) (R.keep b o hb e), pre := R.pre, newR := R.newR, nB := R.nB, g := ?_, e := ?_ }
  · refine R.g.at f.b f.base k rfl fun m o hm => .inl ?_
    obtain ⟨a, h1, _⟩ := R.g.obj m o hm
    exact ⟨a, h1, fun e => f.r (e ▸ List.mem_of_getElem? h1), hm⟩
  · refine R.e.at f.l f.c k (.inl f.o) (fun i y v hi hv => ⟨v, hv, fun val r => r.mono (Le.refl B) (List.prefix_refl ρ) fun a ha ob e => k a ob ?_ e⟩) fun i v hv ho => ⟨v, hv, ho⟩
    first | exact fun q => f.o i (q ▸ ha) | (rintro rfl; exact f.o i ha)

/-- an object that is nobody's becomes one of the shared ones -/
theorem Rel.addR {s₀ s : Shared} {ρ₀ : List Addr} (R : Rel cx sc env s₀ ρ₀ F G B ρ oa s) {d : Addr} (f : Free cx env B ρ oa d) (h0 : s₀.heap.get? d = none) {o : O} (ho : ObjAt cx B s.heap d o) : Rel cx sc env s₀ ρ₀ F (G ++ [o]) B (ρ ++ [d]) oa s := by
  have ni : ∀ a, a ≠ d → a ∉ ρ → a ∉ ρ ++ [d] := fun a h1 h2 h3 => by
    rcases List.mem_append.mp h3 with q | q
    · exact h2 q
    · simp at q; exact h1 q
  have p : ρ <+: ρ ++ [d] := List.prefix_append ..
  refine { same := R.same, keep := R.keep, pre := R.pre.trans p, newR := ?_, nB := R.nB, g := ?_, e := ?_ }
  · intro a ha
    rcases List.mem_append.mp ha with q | q
    · exact R.newR a q
    · simp at q; subst q; exact .inr h0
  · refine { ok := R.g.ok, base := R.g.base, sub := R.g.sub, nd := ?_, out := ?_, bsys := R.g.bsys, len := by simp [R.g.len], obj := ?_ }
    · exact List.nodup_append.mpr ⟨R.g.nd, by simp, by intro a ha b hb; simp at hb; subst hb; rintro rfl; exact f.r ha⟩
    · intro a ha
      rcases List.mem_append.mp ha with q | q
      · exact R.g.out a q
      · simp at q; subst q; exact ⟨f.b, f.base, f.n⟩
    · intro m ob hm
      by_cases hl : m < G.length
      · rw [List.getElem?_append_left hl] at hm
        obtain ⟨a, h1, h2⟩ := R.g.obj m ob hm
        exact ⟨a, pre_get p h1, h2⟩
      · have e : m = G.length := by
          have := (List.getElem?_eq_some_iff.mp hm).1
          simp at this; lia
        subst e
        simp at hm; subst hm
        exact ⟨d, by rw [R.g.len]; simp, ho⟩
  · have E := R.e
    exact { fn := E.fn, gl := E.gl, bl := E.bl, kinds := E.kinds, ns := E.ns, lout := ⟨E.lout.1, E.lout.2.1, ni _ (Ne.symm f.l) E.lout.2.2.1, E.lout.2.2.2⟩,
            cell := fun y c hc => let ⟨a0, a1, a2, a3, a4⟩ := E.cell y c hc; ⟨a0, a1, a2, ni _ (f.c y c hc) a3, a4⟩, hasC := E.hasC, inj := E.inj, nmInj := E.nmInj,
            vars := fun i y v hi hv => let ⟨val, h1, h2⟩ := E.vars i y v hi hv; ⟨val, h1, h2.mono (Le.refl B) p fun _ _ _ e => e⟩,
            own := fun i a ha => let ⟨a0, a1, a2, a3, a4⟩ := E.own i a ha; ⟨a0, a1, a2, ni _ (by first | exact fun q => f.o i (q ▸ ha) | (rintro rfl; exact f.o i ha)) a3, a4⟩,
            ownI := E.ownI }
theorem Gr.addR {d : Addr} (hd : h.get? d = none) (g : Gr B ρ oa h B' ρ' oa' h') : Gr B ρ oa h B' (ρ' ++ [d]) oa' h' where
  le := g.le
  pre := g.pre.trans (List.prefix_append ..)
  newR := fun a ha => by
    rcases List.mem_append.mp ha with q | q
    · exact g.newR a q
    · simp at q; subst q; exact .inr hd
  nB := g.nB
  keep := g.keep
  oaS := g.oaS

theorem dict_at {K : Type} [DecidableEq K] {knd : KeyKind prog w K} {h h' : Heap} {a : Addr} {kv : List (K × Value)} (d : h.DictOf knd a kv) (k : ∀ o, h.get? a = some o → h'.get? a = some o) : h'.DictOf knd a kv :=
  let ⟨o, es, ep, ho, r⟩ := d; ⟨o, es, ep, k o ho, r⟩

/-! dict displays -/
theorem TO_dict1 {a b : Expr} {p} {i : Int} {y : PyData} (h₁ : TE cx n sc a F G (.d (.int i)) F₁ G₁) (h₂ : TE cx n sc b F₁ G₁ (.d y) F' G') : TO cx n sc (.Dict [some a] [b] p) F G (.od [(i, y)]) F' G' := by
  intro A env s₀ ρ₀ B ρ oa s ok R
  refine wpAny_Dict_walk (knd := intKind cx.prog cx.w) rfl rfl (by simp) (by simp) ?_
  have hn := fresh_none s.heap
  have R0 := R.grow (h' := s.heap.push { cls := .type "dict", data := .dict #[] }) (tk := s.toks) fun b o e => Heap.get?_push_of_some _ e
  have f0 := R.fresh_apart (Nat.le_refl s.heap.objs.size)
  have hs0 := Heap.get?_push_size s.heap (o := { cls := .type "dict", data := .dict #[] }) rfl
  refine pairTrees_cons_walk (two h₁ h₂ ok R0 fun u v s₂ B' ρ' oa' R' g r₁ r₂ => pairTrees_nil_walk ?_)
  have r₁ : Rep cx.prog cx.w B' u (.int i) := r₁
  cases r₁
  have f' := f0.later g (by rw [hs0]; rfl)
  refine ⟨[(i, v)], ⟨intKind_is _ _ _ _, rfl, trivial⟩, dict_at (Heap.DictOf.new s.heap) (fun o e => g.keep _ o f0.r e), fun h' hd sb => ?_⟩
  have g0 : Gr B ρ oa s.heap B' ρ' oa' s₂.heap := Gr.trans (Gr.heap (oa := oa) fun b o e => Heap.get?_push_of_some _ e) g
  have kd : (h'.get? s.heap.objs.size).isSome := by obtain ⟨_, _, _, e, _⟩ := hd; rw [e]; rfl
  have k : ∀ b o, b ≠ s.heap.objs.size → s₂.heap.get? b = some o → h'.get? b = some o := fun b o hb e => (sb.2 b hb).trans e
  refine ⟨B', ρ', oa', _, R'.setFree f' (R.before f0.r hn) k, ⟨g0.le, g0.pre, g0.newR, g0.nB, fun b o hr e => k b o (by first | exact ne_get e (hn) | exact ne_iss e (hn) | exact ne_get (hn) e | (rintro rfl; rw [hn] at e; cases e)) (g0.keep b o hr e), g0.oaS⟩, ⟨_, rfl, rfl, _, hd, ?_⟩, rfl, hn, kd, f', R.before f0.r hn⟩
  exact .cons r₂ .nil

theorem T_dictS {k₁ k₂ : Str} {a b : Expr} {p q₁ q₂ : Pos} {c₁ c₂} {x y : PyData} (hne : k₁ ≠ k₂) (h₁ : TE cx n sc a F G (.d x) F₁ G₁) (h₂ : TE cx n sc b F₁ G₁ (.d y) F' G') :
    TE cx n sc (.Dict [some (.Constant (.str k₁) c₁ q₁), some (.Constant (.str k₂) c₂ q₂)] [a, b] p) F G (.h G'.length) F' (G' ++ [.ds [(k₁, x), (k₂, y)]]) := by
  intro A env s₀ ρ₀ B ρ oa s ok R
  refine wpAny_Dict_walk (knd := strKind cx.prog cx.w) rfl rfl (by simp) (by simp) ?_
  have hn := fresh_none s.heap
  have R0 := R.grow (h' := s.heap.push { cls := .type "dict", data := .dict #[] }) (tk := s.toks) fun b o e => Heap.get?_push_of_some _ e
  have f0 := R.fresh_apart (Nat.le_refl s.heap.objs.size)
  have hs0 := Heap.get?_push_size s.heap (o := { cls := .type "dict", data := .dict #[] }) rfl
  refine pairTrees_cons_walk (Constant_str ?_)
  refine wpAny_mono (h₁ A env s₀ ρ₀ B ρ oa _ ok (R0.tok _)) (fun u s₁ P => ?_) fun _ _ x => x
  obtain ⟨B₁, ρ₁, oa₁, R₁, g₁, r₁⟩ := P
  refine pairTrees_cons_walk (Constant_str ?_)
  refine wpAny_mono (h₂ A env s₀ ρ₀ B₁ ρ₁ oa₁ _ ok (R₁.tok _)) (fun v s₂ P => ?_) fun _ _ x => x
  obtain ⟨B', ρ', oa', R', g₂, r₂⟩ := P
  refine pairTrees_nil_walk ?_
  have g := g₁.trans g₂
  have f' := f0.later g (by show ((s.heap.push _).get? _).isSome; rw [hs0]; rfl)
  refine ⟨[(k₁, u), (k₂, v)], ⟨strKind_is _ _ _ _, rfl, strKind_is _ _ _ _, rfl, trivial⟩, dict_at (Heap.DictOf.new s.heap) (fun o e => g.keep _ o f0.r e), fun h' hd sb => ?_⟩
  have g0 : Gr B ρ oa s.heap B' ρ' oa' s₂.heap := Gr.trans (Gr.heap (oa := oa) fun b o e => Heap.get?_push_of_some _ e) g
  have kd : (h'.get? s.heap.objs.size).isSome := by obtain ⟨_, _, _, e, _⟩ := hd; rw [e]; rfl
  have k : ∀ b o, b ≠ s.heap.objs.size → s₂.heap.get? b = some o → h'.get? b = some o := fun b o hb e => (sb.2 b hb).trans e
  have R'' := R'.setFree (tk := s₂.toks + 2) f' (R.before f0.r hn) k
  have hm : merged [] [(k₁, u), (k₂, v)] = [(k₁, u), (k₂, v)] := by simp [merged, stored, hne]
  rw [hm] at hd
  refine ⟨B', ρ' ++ [s.heap.objs.size], oa', R''.addR f' (R.before f0.r hn) ⟨_, hd, .cons (Rep.mono g₂.le r₁) (.cons r₂ .nil)⟩, Gr.addR hn ⟨g0.le, g0.pre, g0.newR, g0.nB, fun b o hr e => k b o (by first | exact ne_get e (hn) | exact ne_iss e (hn) | exact ne_get (hn) e | (rintro rfl; rw [hn] at e; cases e)) (g0.keep b o hr e), g0.oaS⟩, _, ?_, rfl⟩
  rw [R'.g.len]; simp

/-! slices -/
theorem T_slice {x : Str} {px p q : Pos} {lo hi : Option Expr} {xs ys : List PyData} (h₁ : TE cx n sc (.Name x px) F G (.d (.list xs)) F₁ G₁) (hz : szOk xs.length = true)
    (h₂ : (∃ i e, lo = none ∧ hi = some e ∧ 0 ≤ i ∧ TE cx n sc e F₁ G₁ (.d (.int i)) F' G' ∧ ys = xs.take i.toNat) ∨ (∃ i e, lo = some e ∧ hi = none ∧ 0 ≤ i ∧ TE cx n sc e F₁ G₁ (.d (.int i)) F' G' ∧ ys = xs.drop i.toNat)) :
    TO cx n sc (.Subscript (.Name x px) (.Slice lo hi none p) q) F G (.ol ys) F' G' := by
  intro A env s₀ ρ₀ B ρ oa s ok R
  have key : ∀ {s₂ B' ρ' oa'} {a : Value} {vl vu : Value} {l u : Option Int}, Rel cx sc env s₀ ρ₀ F' G' B' ρ' oa' s₂ → Gr B ρ oa s.heap B' ρ' oa' s₂.heap → Rep cx.prog cx.w B' a (.list xs) → IsPart vl l → IsPart vu u →
      (∀ (items : Array Value), RepAll cx.prog cx.w B' items.toList xs → RepAll cx.prog cx.w B' (slicePick items l u none).toList ys) →
      ∃ b items lo hi, a = .ref b ∧ s₂.heap.IsList b items ∧ items.size ≤ sizeLine ∧ IsPart vl lo ∧ IsPart vu hi ∧
        PostO cx sc env s₀ ρ₀ F' G' B ρ oa s.heap (.ol ys) (.ref (s₂.heap.objs.size + 1)) { s₂ with heap := (s₂.heap.push { cls := .type "slice", data := .fields #[vl, vu, .none] }).push { cls := .type "list", data := .seq (slicePick items lo hi none) } } := by
    intro s₂ B' ρ' oa' a vl vu l u R' g r pl pu hp
    obtain ⟨b, vs, rfl, t₁, q₁⟩ := rep_list r
    have e1 := q₁.length
    simp only [Array.length_toList] at e1
    refine ⟨b, vs, l, u, rfl, (plain_mono R'.g.sub t₁).isList, by rw [e1]; exact szOk_line hz, pl, pu, ?_⟩
    have P := PostO.list (tk := s₂.toks) (R'.grow (tk := s₂.toks) (h' := s₂.heap.push { cls := .type "slice", data := .fields #[vl, vu, .none] }) fun b o e => Heap.get?_push_of_some _ e) (hp vs q₁)
    rw [Heap.size_push] at P
    exact PostO.after (Gr.trans g (Gr.heap fun b o e => Heap.get?_push_of_some _ e)) P
  rcases h₂ with ⟨i, e, rfl, rfl, hi, h₂, rfl⟩ | ⟨i, e, rfl, rfl, hi, h₂, rfl⟩
  · refine wpAny_Subscript_list_slice (wpAny_mono (h₁ A env s₀ ρ₀ B ρ oa s ok R) (fun a s₁ P => wpAny_pure ?_) fun _ _ x => x)
    obtain ⟨B₁, ρ₁, oa₁, R₁, g₁, r₁⟩ := P
    refine wpAny_mono (h₂ A env s₀ ρ₀ B₁ ρ₁ oa₁ s₁ ok R₁) (fun b s₂ P => ?_) fun _ _ x => x
    obtain ⟨B₂, ρ₂, oa₂, R₂, g₂, r₂⟩ := P
    have r₂ : Rep cx.prog cx.w B₂ b (.int i) := r₂
    cases r₂
    refine key R₂ (g₁.trans g₂) (Rep.mono g₂.le r₁) .none (.int i _) fun items q => ?_
    obtain ⟨k, rfl⟩ := Int.eq_ofNat_of_zero_le hi
    rw [show ((k : Int)).toNat = k from rfl, slicePick_upto']
    simpa using q.take k
  · refine wpAny_Subscript_list_slice (wpAny_mono (h₁ A env s₀ ρ₀ B ρ oa s ok R) (fun a s₁ P => ?_) fun _ _ x => x)
    obtain ⟨B₁, ρ₁, oa₁, R₁, g₁, r₁⟩ := P
    refine wpAny_mono (h₂ A env s₀ ρ₀ B₁ ρ₁ oa₁ s₁ ok R₁) (fun b s₂ P => wpAny_pure ?_) fun _ _ x => x
    obtain ⟨B₂, ρ₂, oa₂, R₂, g₂, r₂⟩ := P
    have r₂ : Rep cx.prog cx.w B₂ b (.int i) := r₂
    cases r₂
    refine key R₂ (g₁.trans g₂) (Rep.mono g₂.le r₁) (.int i _) .none fun items q => ?_
    obtain ⟨k, rfl⟩ := Int.eq_ofNat_of_zero_le hi
    rw [show ((k : Int)).toNat = k from rfl, slicePick_from']
    simpa using q.drop k

end
end Mine
namespace Mine
open PySem PySem.W PySem.Calls PyProof.Rows

/-! sorting -/
theorem insI_perm (x : Int) : ∀ l, (insI x l).Perm (x :: l)
  | [] => List.Perm.refl _
  | y :: r => by
    unfold insI
    split
    · exact List.Perm.refl _
    · exact ((insI_perm x r).cons y).trans (List.Perm.swap x y r)
theorem sortI_perm : ∀ l, (sortI l).Perm l
  | [] => List.Perm.refl _
  | x :: r => (insI_perm x _).trans ((sortI_perm r).cons x)
theorem insI_mem {x y : Int} {l} : y ∈ insI x l ↔ y = x ∨ y ∈ l := by rw [(insI_perm x l).mem_iff]; simp
theorem insI_sorted (x : Int) : ∀ l, l.Pairwise (· ≤ ·) → (insI x l).Pairwise (· ≤ ·)
  | [], _ => by simp [insI]
  | y :: r, h => by
    obtain ⟨h1, h2⟩ := List.pairwise_cons.mp h
    unfold insI
    split
    · rename_i hxy
      refine List.pairwise_cons.mpr ⟨fun z hz => ?_, h⟩
      rcases List.mem_cons.mp hz with rfl | hz
      · exact hxy
      · exact Int.le_trans hxy (h1 z hz)
    · rename_i hxy
      refine List.pairwise_cons.mpr ⟨fun z hz => ?_, insI_sorted x r h2⟩
      rcases insI_mem.mp hz with rfl | hz
      · lia
      · exact h1 z hz
theorem sortI_sorted : ∀ l, (sortI l).Pairwise (· ≤ ·)
  | [] => List.Pairwise.nil
  | x :: r => insI_sorted x _ (sortI_sorted r)
theorem sorted_unique : ∀ {a b : List Int}, a.Perm b → a.Pairwise (· ≤ ·) → b.Pairwise (· ≤ ·) → a = b
  | [], b, p, _, _ => by rw [List.nil_perm.mp p]
  | x :: r, [], p, _, _ => by have := p.length_eq; simp at this
  | x :: r, y :: t, p, ha, hb => by
    obtain ⟨a1, a2⟩ := List.pairwise_cons.mp ha
    obtain ⟨b1, b2⟩ := List.pairwise_cons.mp hb
    have e : x = y := by
      have h1 : x ∈ y :: t := p.mem_iff.mp (.head _)
      have h2 : y ∈ x :: r := p.mem_iff.mpr (.head _)
      rcases List.mem_cons.mp h1 with h1 | h1
      · exact h1
      · rcases List.mem_cons.mp h2 with h2 | h2
        · exact h2.symm
        · have := a1 y h2; have := b1 x h1; lia
    subst e
    rw [sorted_unique (List.Perm.cons_inv p) a2 b2]
theorem sortI_eq {a b : List Int} (p : a.Perm b) (h : a.Pairwise (· ≤ ·)) : a = sortI b := sorted_unique (p.trans (sortI_perm b).symm) h (sortI_sorted b)

section
variable {cx : Cx} {n : Nat} {sc : Sc} {F F' F₁ F₂ : List (Option V)} {G G' G₁ G₂ : List O}

theorem ints_of_rep {B : Heap} : ∀ {vs : List Value} {xs : List PyData} {is : List Int}, RepAll cx.prog cx.w B vs xs → asInts xs = some is → IntsAre vs is
  | _, [], _, r, h => by cases r; cases h; exact .nil
  | _, x :: xs, _, r, h => by
    cases r with | cons q r =>
    simp only [asInts, Option.bind_eq_some_iff, Option.map_eq_some_iff] at h
    obtain ⟨i, hi, is, hs, rfl⟩ := h
    obtain rfl := asInt_eq hi
    obtain ⟨_, rfl⟩ := rep_int q
    exact .cons _ _ (ints_of_rep r hs)
theorem rep_of_ints {B : Heap} {vs : List Value} {is : List Int} (h : IntsAre vs is) : RepAll cx.prog cx.w B vs (is.map .int) := by
  induction h with
  | nil => exact .nil
  | cons n t _ ih => exact .cons (.int n t) ih

theorem sorted_list {A : Around} {E : Value → Shared → Prop} {env : Env} {s₀ s : Shared} {ρ₀ ρ : List Addr} {B : Heap} {oa : List (Option Addr)} (R : Rel cx sc env s₀ ρ₀ F G B ρ oa s) {a : Addr} {xs : List PyData} {is : List Int} (hl : ListAt cx B s.heap a xs) (hi : asInts xs = some is) (h64 : xs.length < 64) :
    wpAny (model cx.prog cx.w) A (call (.builtin "sorted") [.ref a]) (PostO cx sc env s₀ ρ₀ F G B ρ oa s.heap (.ol ((sortI is).map .int))) E s := by
  obtain ⟨vs, hp, r⟩ := hl
  have hI := ints_of_rep r hi
  have e := r.length
  refine sorted_ints (vs := vs.toList) (by simpa using hp.isList) hI (by rw [e]; exact h64) fun out ns' h1 h2 h3 => ?_
  obtain ⟨ep, ho⟩ := sortedAll_at s.heap vs.toList out
  refine PostO.new (tk := s.toks) (a := s.heap.objs.size + 1) R (Nat.le_succ _) (fun b o e => sortedAll_old e) (by rw [ho]; rfl) ⟨_, rfl, rfl, out, ⟨_, ho⟩, ?_⟩ rfl
  rw [← sortI_eq h2 h3]
  exact rep_of_ints h1

theorem sorted_dict {A : Around} {E : Value → Shared → Prop} {env : Env} {s₀ s : Shared} {ρ₀ ρ : List Addr} {B : Heap} {oa : List (Option Addr)} (hh : A.handled = none) (R : Rel cx sc env s₀ ρ₀ F G B ρ oa s) {a : Addr} {kvs : List (Int × PyData)} (hl : DiAt cx B s.heap a kvs) (hs : a ≠ sysModules) (h64 : kvs.length < 64) :
    wpAny (model cx.prog cx.w) A (call (.builtin "sorted") [.ref a]) (PostO cx sc env s₀ ρ₀ F G B ρ oa s.heap (.ol ((sortI (kvs.map (·.1))).map .int))) E s := by
  obtain ⟨kv, hd, r⟩ := hl
  have keys : kv.map (·.1) = kvs.map (·.1) := by
    clear hd
    induction r with
    | nil => rfl
    | cons _ _ ih => simpa using ih (by simpa using Nat.lt_of_succ_lt h64)
  have hlen : kv.length = kvs.length := by simpa using congrArg List.length keys
  obtain ⟨ep, hat⟩ := hd.dictAt
  refine call_function_entry kind_sorted plain_sorted entry_sorted (args_sorted1 _) ?_
  unfold Builtin.«sorted»
  refine wpAny_bind (m := checkCount "sorted" 1 1 _) (wpAny_pure ?_)
  refine wpAny_bind (kdu_collect (A := A.in1) (kdl_dict (knd := intKind cx.prog cx.w) (kvs := kv) (ep := ep) (beq_sys hs)) hh hat (by rw [sizeLine_eq]; lia) fun h' tk acc hk hacc => ?_)
  have hl : acc.toList.length = kv.length := by rw [Array.length_toList]; exact hacc.1
  have hI : IntsAre acc.toList (kv.map (·.1)) := by
    have hv : ∀ j v, acc.toList[j]? = some v → ∃ k x, kv[j]? = some (k, x) ∧ (intKind cx.prog cx.w).is k v = true := fun j v e => hacc.2 j v (by rw [← Array.getElem?_toList]; exact e)
    clear hacc
    generalize acc.toList = l at hl hv
    clear hat hd r keys hlen
    induction l generalizing kv with
    | nil => cases kv with | nil => exact .nil | cons => simp at hl
    | cons v l ih =>
      cases kv with
      | nil => simp at hl
      | cons p kv =>
        obtain ⟨k, x, e1, e2⟩ := hv 0 v rfl
        simp at e1; subst e1
        obtain ⟨t, rfl⟩ := Value.isInt_shape e2
        exact .cons _ _ (ih kv (by simpa using hl) fun j v e => by simpa using hv (j + 1) v (by simpa using e))
  refine wpAny_bind (wpAny_newList ?_ (by rw [hl, hlen, sizeLine_eq]; lia))
  have hoL : (h'.push { cls := .type "list", data := .seq acc.toList.toArray }).get? h'.objs.size = some (seqObj "list" acc.toList.toArray 0) := Heap.get?_push_size _ rfl
  refine wpAny_bind (wpAny_holding (wpAny_call_entry slot_list_sort ⟨_, hoL, rfl⟩ entry_list_sort (list_sort_tree hoL hI (by rw [hl, hlen]; exact h64) fun out ns' a1 a2 a3 => ⟨_, rfl, ?_⟩) (args_list_sort _)))
  refine wpAny_pure ⟨_, rfl, ?_⟩
  obtain ⟨ep', ho⟩ := sortedHeap_at (out := out) hoL
  have big := get?_big (h := h') (Nat.le_refl _)
  refine PostO.new' (tk := tk) (a := h'.objs.size) R (none_of_keep hk big) (R.not_sys hk (Nat.le_refl _)) (fun b o e => ?_) (by rw [ho]; rfl) ⟨_, rfl, rfl, out, ⟨_, ho⟩, ?_⟩ rfl
  · have := Heap.lt_size (hk _ _ e)
    rw [sortedHeap_old (Nat.ne_of_lt this) (by rw [size_push']; exact Nat.lt_succ_of_lt this)]
    exact Heap.get?_push_of_some _ (hk _ _ e)
  · rw [← keys, ← sortI_eq a2 a3]
    exact rep_of_ints a1

/-! calls of built-in names -/
theorem T_call1 {f : Str} {fv : Value} {e : Expr} {np p : Pos} {u : V} {P : Value → Shared → Prop} {A : Around} {env : Env} {s₀ s : Shared} {ρ₀ ρ B oa} (b : Blt cx sc f fv) (hfv : (∃ i, fv = .builtin i) ∨ ∃ t, fv = .type t) (hp : plainE e = true)
    (h : TE cx n sc e F G u F' G') (ok : AOk n A) (R : Rel cx sc env s₀ ρ₀ F G B ρ oa s)
    (q : ∀ v s₁ B₁ ρ₁ oa₁, Rel cx sc env s₀ ρ₀ F' G' B₁ ρ₁ oa₁ s₁ → Gr B ρ oa s.heap B₁ ρ₁ oa₁ s₁.heap → RepV cx B₁ ρ₁ v u → wpAny (model cx.prog cx.w) A (call fv [v]) P (fun _ _ => False) s₁) :
    wpAny (model cx.prog cx.w) A (eval (.Call (.Name f np) [e] [] p) env) P (fun _ _ => False) s := by
  refine call1 b hfv hp R (wpAny_mono (h A env s₀ ρ₀ B ρ oa s ok R) (fun v s₁ r => ?_) fun _ _ x => x)
  obtain ⟨B₁, ρ₁, oa₁, R₁, g₁, r₁⟩ := r
  exact q v s₁ B₁ ρ₁ oa₁ R₁ g₁ r₁

theorem T_tuple {e : Expr} {np p} {xs : List PyData} (b : Blt cx sc "tuple" (.type "tuple")) (hp : plainE e = true) (h : TE cx n sc e F G (.d (.list xs)) F' G') (hz : szOk xs.length = true) : TE cx n sc (.Call (.Name "tuple" np) [e] [] p) F G (.d (.tuple xs)) F' G' := by
  intro A env s₀ ρ₀ B ρ oa s ok R
  refine T_call1 b (.inr ⟨_, rfl⟩) hp h ok R fun v s₁ B₁ ρ₁ oa₁ R₁ g₁ r => ?_
  have r : Rep cx.prog cx.w B₁ v (.list xs) := r
  obtain ⟨a, vs, rfl, hl, hr⟩ := rep_list r
  have e := hr.length
  simp only [Array.length_toList] at e
  refine call_tuple_list (plain_mono R₁.g.sub hl).isList (fun h' hk => ?_) (by rw [e]; exact szOk_line hz)
  have big := get?_big (h := h') (Nat.le_refl _)
  exact PostE.after g₁ (PostE.newB' (tk := s₁.toks) (a := h'.objs.size) R₁ (none_of_keep hk big) (R₁.not_sys hk (Nat.le_refl _)) (fun b o e => Heap.get?_push_of_some _ (hk b o e)) (Heap.get?_push_size _ rfl) fun B' l e => .tuple ⟨_, e, rfl, 0, rfl⟩ (hr.mono l))

theorem TO_list {e : Expr} {np p} {xs : List PyData} (b : Blt cx sc "list" (.type "list")) (hp : plainE e = true) (h : TE cx n sc e F G (.d (.list xs)) F' G') (hz : szOk xs.length = true) : TO cx n sc (.Call (.Name "list" np) [e] [] p) F G (.ol xs) F' G' := by
  intro A env s₀ ρ₀ B ρ oa s ok R
  refine T_call1 b (.inr ⟨_, rfl⟩) hp h ok R fun v s₁ B₁ ρ₁ oa₁ R₁ g₁ r => ?_
  have r : Rep cx.prog cx.w B₁ v (.list xs) := r
  obtain ⟨a, vs, rfl, hl, hr⟩ := rep_list r
  have e := hr.length
  simp only [Array.length_toList] at e
  obtain ⟨o, ho, hc, m, hd⟩ := (plain_mono R₁.g.sub hl).isList
  refine call_list_seq a (.inl rfl) ho hc hd (fun h' c hk hD => ?_) (by rw [e]; exact szOk_line hz)
  exact PostO.after g₁ (PostO.new (tk := s₁.toks) R₁ (Nat.le_refl _) hk (by rw [hD]; rfl) ⟨_, rfl, rfl, vs, ⟨c, hD⟩, hr⟩ rfl)

theorem T_sum {e : Expr} {np p} {xs : List PyData} {is : List Int} (b : Blt cx sc "sum" (.builtin "sum")) (hp : plainE e = true) (h : TE cx n sc e F G (.d (.list xs)) F' G') (hi : asInts xs = some is) : TE cx n sc (.Call (.Name "sum" np) [e] [] p) F G (.d (.int is.sum)) F' G' := by
  intro A env s₀ ρ₀ B ρ oa s ok R
  refine T_call1 b (.inl ⟨_, rfl⟩) hp h ok R fun v s₁ B₁ ρ₁ oa₁ R₁ g₁ r => ?_
  have r : Rep cx.prog cx.w B₁ v (.list xs) := r
  obtain ⟨a, vs, rfl, hl, hr⟩ := rep_list r
  have hI := ints_of_rep hr hi
  obtain ⟨its, hx⟩ := hI.allInts.items
  have hl' : s₁.heap.IsList a (intItems its) := hx ▸ (by simpa using (plain_mono R₁.g.sub hl).isList)
  refine sum_intListG ok.hh hl' fun h' tk t' hk => ?_
  have e1 : is = its.toList.map (·.1) := by
    rw [← nums_intItems, ← hx]
    exact (show numsOf vs.toList.toArray.toList = is from hI.numsOf).symm
  have e2 : preSum (numAt its) its.size = is.sum := by
    rw [preSum_eq, List.take_of_length_le (by simp), e1]
  rw [e2]
  exact PostE.after g₁ ⟨B₁, ρ₁, oa₁, R₁.grow hk, Gr.heap hk, Rep.int _ _⟩

theorem TO_sortedv {j : Nat} {x : Str} {pos np p} {u : V} {is : List Int} (b : Blt cx sc "sorted" (.builtin "sorted")) (hx : oddName x = false) (hn : sc.nm[j]? = some (some x)) (hu : getF F j = some u)
    (h : (∃ xs, (u = .d (.list xs) ∨ u = .ol xs ∨ u = .rl xs) ∧ xs.length < 64 ∧ asInts xs = some is) ∨ (∃ kvs, (u = .od kvs ∨ u = .rd kvs) ∧ kvs.length < 64 ∧ is = kvs.map (·.1))) :
    TO cx n sc (.Call (.Name "sorted" np) [.Name x pos] [] p) F G (.ol ((sortI is).map .int)) F G := by
  intro A env s₀ ρ₀ B ρ oa s ok R
  obtain ⟨val, h1, h2⟩ := R.e.vars j x u hn (getF_get hu)
  refine call1 b (.inl ⟨_, rfl⟩) rfl R (load_var R.e.fn hx h1 ?_)
  rcases h with ⟨xs, rfl | rfl | rfl, h64, hi⟩ | ⟨kvs, rfl | rfl, h64, rfl⟩
  · have r : Rep cx.prog cx.w B val (.list xs) := h2
    obtain ⟨a, vs, rfl, hl, hr⟩ := rep_list r; exact sorted_list R ⟨_, plain_mono R.g.sub hl, hr⟩ hi h64
  · obtain ⟨a, e, rfl, hl⟩ := h2; exact sorted_list R hl hi h64
  · obtain ⟨a, e, rfl, hl⟩ := h2; exact sorted_list R hl hi h64
  · obtain ⟨a, e, rfl, hl⟩ := h2; exact sorted_dict ok.hh R hl (R.e.own j a e).2.2.2.2.2.2 h64
  · obtain ⟨a, e, rfl, hl⟩ := h2; exact sorted_dict ok.hh R hl (R.e.own j a e).2.2.2.2.2.2 h64
end
end Mine
namespace Mine
open PySem PySem.W PySem.Calls PyProof.Rows

/-! arguments and calls of the program's functions -/
inductive Args' (cx : Cx) (B : Heap) (ρ : List Addr) (h : Heap) : List (Option Addr) → List Value → List V → Prop
  | nil : Args' cx B ρ h [] [] []
  | cons {o os val vals v vs} : RepX cx B ρ h o val v → v.owned = false → (∀ a, o = some a → (h.get? a).isSome ∧ B.get? a = none ∧ cx.base.get? a = none ∧ a ∉ ρ ∧ a ≠ sysModules) → Args' cx B ρ h os vals vs → Args' cx B ρ h (o :: os) (val :: vals) (v :: vs)

/-- growth over a call -/
structure Cg (B : Heap) (ρ : List Addr) (s : Shared) (B' : Heap) (ρ' : List Addr) (s' : Shared) : Prop where
  same : ∃ h tk, s' = { s with heap := h, toks := tk }
  le : Le B B'
  pre : ρ <+: ρ'
  newR : ∀ a ∈ ρ', a ∈ ρ ∨ s.heap.get? a = none
  nB : ∀ b, b ∉ ρ → B.get? b = none → (s.heap.get? b).isSome → B'.get? b = none
  keep : ∀ b o, b ∉ ρ → s.heap.get? b = some o → s'.heap.get? b = some o

noncomputable def CallOk (cx : Cx) (n : Nat) (f : Addr) (vs : List V) (G : List O) (v : V) (G' : List O) : Prop :=
  ∀ (A : Around) (s : Shared) (ρ : List Addr) (B : Heap) (oas : List (Option Addr)) (vals : List Value), AOk n A → GRel cx G B ρ s.heap → Args' cx B ρ s.heap oas vals vs →
    codeAny (model cx.prog cx.w) A (.call (.ref f) ⟨vals, []⟩) (fun r s' => ∃ val B' ρ', r = .ok (.ret val) ∧ GRel cx G' B' ρ' s'.heap ∧ Cg B ρ s B' ρ' s' ∧ RepV cx B' ρ' val v) s

section
variable {cx : Cx} {n : Nat} {sc : Sc} {F F' F₁ F₂ : List (Option V)} {G G' G₁ G₂ : List O}

/-- several values, as arguments -/
noncomputable def TA (cx : Cx) (n : Nat) (sc : Sc) (es : List Expr) (F : List (Option V)) (G : List O) (vs : List V) (F' : List (Option V)) (G' : List O) : Prop :=
  ∀ (A : Around) (env : Env) (s₀ : Shared) (ρ₀ : List Addr) (B : Heap) (ρ : List Addr) (oa : List (Option Addr)) (s : Shared) (pos : Pos),
    AOk n A → Rel cx sc env s₀ ρ₀ F G B ρ oa s →
    wpAny (model cx.prog cx.w) A (spliced (backTo pos (starEach es env))) (fun vals s' => ∃ B' ρ' oa' oas, Rel cx sc env s₀ ρ₀ F' G' B' ρ' oa' s' ∧ Gr B ρ oa s.heap B' ρ' oa' s'.heap ∧ Args' cx B' ρ' s'.heap oas vals vs) (fun _ _ => False) s

theorem TA_nil : TA cx n sc [] F G [] F G := by
  intro A env s₀ ρ₀ B ρ oa s pos ok R
  exact args_nil ⟨B, ρ, oa, [], R, Gr.refl .., .nil⟩
theorem repV_owned {B ρ val} {v : V} (r : RepV cx B ρ val v) : v.owned = false := by cases v <;> first | rfl | exact r.elim
theorem TA_cons {e : Expr} {r : List Expr} {x : V} {xs : List V} (hp : plainE e = true) (h₁ : TE cx n sc e F G x F₁ G₁) (h₂ : TA cx n sc r F₁ G₁ xs F' G') : TA cx n sc (e :: r) F G (x :: xs) F' G' := by
  intro A env s₀ ρ₀ B ρ oa s pos ok R
  refine args_cons (wpAny_mono (h₁ A env s₀ ρ₀ B ρ oa s ok R) (fun v s₁ q => ?_) fun _ _ x => x) (star_plain hp)
  obtain ⟨B₁, ρ₁, oa₁, R₁, g₁, r₁⟩ := q
  refine wpAny_mono (h₂ A env s₀ ρ₀ B₁ ρ₁ oa₁ s₁ pos ok R₁) (fun vs s₂ q => ?_) fun _ _ x => x
  obtain ⟨B₂, ρ₂, oa₂, oas, R₂, g₂, r₂⟩ := q
  exact ⟨B₂, ρ₂, oa₂, none :: oas, R₂, g₁.trans g₂, .cons (repV_X (r₁.mono g₂.le g₂.pre)) (repV_owned r₁) (fun a e => by cases e) r₂⟩
theorem ro_owned (v : V) : (ro v).owned = false := by cases v <;> rfl
theorem ro_rep {B ρ h o val} {v : V} (r : RepX cx B ρ h o val v) : RepX cx B ρ h o val (ro v) := by cases v <;> exact r
theorem TA_consv {i : Nat} {x : Str} {pos : Pos} {r : List Expr} {u : V} {xs : List V} (hx : oddName x = false) (hn : sc.nm[i]? = some (some x)) (h₂ : TA cx n sc r F G xs F' G') (hu : getF F' i = some u) (hi : ∃ u₀, getF F i = some u₀) :
    TA cx n sc (.Name x pos :: r) F G (ro u :: xs) F' G' := by
  intro A env s₀ ρ₀ B ρ oa s pos ok R
  obtain ⟨u₀, hu₀⟩ := hi
  obtain ⟨val, h1, _⟩ := R.e.vars i x u₀ hn (getF_get hu₀)
  refine args_cons (load_var R.e.fn hx h1 ?_) rfl
  refine wpAny_mono (h₂ A env s₀ ρ₀ B ρ oa s pos ok R) (fun vs s₂ q => ?_) fun _ _ x => x
  obtain ⟨B₂, ρ₂, oa₂, oas, R₂, g₂, r₂⟩ := q
  obtain ⟨val', h1', h2'⟩ := R₂.e.vars i x u hn (getF_get hu)
  have e := (h1.later R g₂).fn h1'
  subst e
  exact ⟨B₂, ρ₂, oa₂, oa₂.getD i none :: oas, R₂, g₂, .cons (ro_rep h2') (ro_owned u) (fun a e => let ⟨a0, a1, a2, a3, _, _, a4⟩ := R₂.e.own i a e; ⟨a0, a1, a2, a3, a4⟩) r₂⟩

theorem Rel.called {env s₀ s s' ρ₀ B ρ oa B' ρ'} (R : Rel cx sc env s₀ ρ₀ F G B ρ oa s) (g : GRel cx G' B' ρ' s'.heap) (c : Cg B ρ s B' ρ' s') : Rel cx sc env s₀ ρ₀ F G' B' ρ' oa s' ∧ Gr B ρ oa s.heap B' ρ' oa s'.heap := by
  have gr : Gr B ρ oa s.heap B' ρ' oa s'.heap := ⟨c.le, c.pre, c.newR, fun b h1 h2 h3 _ => c.nB b h1 h2 h3, c.keep, fun _ _ e => e⟩
  have nB' : ∀ b, B.get? b = none → (s.heap.get? b).isSome → B'.get? b = none := fun b h1 h2 => by
    by_cases h : b ∈ ρ
    · exact (g.out b (pre_mem c.pre h)).1
    · exact c.nB b h h1 h2
  refine ⟨?_, gr⟩
  obtain ⟨h0, t0, e0⟩ := R.same
  obtain ⟨h1, t1, e1⟩ := c.same
  have up : ∀ b o, b ∉ ρ₀ → s₀.heap.get? b = some o → b ∉ ρ := fun b o hb e q => by
    rcases R.newR b q with q | q
    · exact hb q
    · rw [q] at e; cases e
  refine { same := ⟨h1, t1, by rw [e1, e0]⟩, keep := fun b o hb e => c.keep b o (up b o hb e) (R.keep b o hb e), pre := R.pre.trans c.pre, newR := ?_, nB := ?_, g := g, e := R.e.step c.le nB' c.pre c.newR c.keep }
  · intro a ha
    rcases c.newR a ha with q | q
    · exact R.newR a q
    · by_cases hr : a ∈ ρ₀
      · exact .inl hr
      · right
        cases e : s₀.heap.get? a with
        | none => rfl
        | some o => rw [R.keep a o hr e] at q; cases q
  · intro b hb h2 h3
    obtain ⟨o, ho⟩ := Option.isSome_iff_exists.mp h3
    exact nB' b (R.nB b hb h2 h3) (by rw [R.keep b o hb ho]; rfl)

theorem call_ft {f : Addr} {vs : List V} {v : V} {env s₀ s ρ₀ B ρ oa oas vals} {A : Around} (hc : CallOk cx n f vs G v G') (ok : AOk n A) (R : Rel cx sc env s₀ ρ₀ F G B ρ oa s) (ha : Args' cx B ρ s.heap oas vals vs) :
    wpAny (model cx.prog cx.w) A (call (.ref f) vals) (PostE cx sc env s₀ ρ₀ F G' B ρ oa s.heap v) (fun _ _ => False) s := by
  refine wpAny_call (codeAny_mono (hc A s ρ B oas vals ok R.g ha) fun r s' q => ?_)
  obtain ⟨val, B', ρ', rfl, g, c, r⟩ := q
  obtain ⟨R', gr⟩ := R.called g c
  exact ⟨B', ρ', oa, R', gr, r⟩

/-- a function of the module, by its name -/
structure FnNm (cx : Cx) (sc : Sc) (x : Str) (f : Addr) : Prop where
  k : sc.kind x = some .globalImplicit
  o : oddName x = false
  n : nsIn cx.K mainGlobals x = some (some (.ref f))
  fn : ∃ o fd, cx.K.lookup f = some o ∧ o.data = .func fd

theorem callWith_fn {f : Addr} {o : Obj} {fd : FuncData} {first : List Value} {e : Expr} {r : List Expr} {env : Env} {pos : Pos} {A : Around} {s : Shared} {Q : Value → Shared → Prop} {E : Value → Shared → Prop} (hdat : o.data = .func fd) (ho : cx.base.get? f = some o) (hp : (e :: r).all plainE = true)
    (h : wpAny (model cx.prog cx.w) A (spliced (backTo pos (starEach (e :: r) env))) (fun vs s₁ => Le cx.base s₁.heap ∧ wpAny (model cx.prog cx.w) A (call (.ref f) (first ++ vs)) Q E s₁) E s) :
    wpAny (model cx.prog cx.w) A (callWith pos (.ref f) first (backTo pos (starEach (e :: r) env)) []) Q E s := by
  simp only [List.all_cons, Bool.and_eq_true] at hp
  exact callWith_meth (h₀ := cx.base) hdat ho h (star_plain hp.1)

theorem T_call {x : Str} {f : Addr} {np p : Pos} {es : List Expr} {vs : List V} {v : V} (b : FnNm cx sc x f) (hp : es.all plainE = true) (ha : TA cx n sc es F G vs F' G₁) (h0 : es ≠ []) (hc : CallOk cx n f vs G₁ v G') :
    TE cx n sc (.Call (.Name x np) es [] p) F G v F' G' := by
  intro A env s₀ ρ₀ B ρ oa s ok R
  obtain ⟨o, fd, ho, hd⟩ := b.fn
  refine Call_ (load_glob R b.k b.o b.n ?_)
  cases es with
  | nil => exact absurd rfl h0
  | cons e r =>
  refine callWith_fn hd (R.g.ok.inK _ _ ho) hp (wpAny_mono (ha A env s₀ ρ₀ B ρ oa s p ok R) (fun vals s₁ q => ?_) fun _ _ x => x)
  obtain ⟨B₁, ρ₁, oa₁, oas, R₁, g₁, r₁⟩ := q
  exact ⟨R₁.g.base, wpAny_mono (call_ft hc ok R₁ r₁) (fun v s₂ q => PostE.after g₁ q) fun _ _ x => x⟩

/-! method calls -/
theorem form_plain {es : List Expr} {env : Env} {pos : Pos} (hp : es.all plainE = true) : (backTo pos (starEach es env)).all (fun x => !x.1) = true := by
  induction es with
  | nil => rfl
  | cons e r ih =>
    simp only [List.all_cons, Bool.and_eq_true] at hp
    rw [star_plain hp.1]
    show (!false && (backTo pos (starEach r env)).all (fun x => !x.1)) = true
    rw [ih hp.2]; rfl
theorem eval_mcall {o : Expr} {name : Str} {apos pos : Pos} {es : List Expr} {env : Env} (ho : attrBase o = true) (hl : (apos.endLine == pos.line) = true) (hp : es.all plainE = true) (hn : es.length < 30) :
    eval (.Call (.Attribute o name apos) es [] pos) env = (do
      let ov ← eval o env
      standAt apos.atName
      let (f, first) ← holding [ov] (getMethod ov name (do return (← importBound o env).getD true))
      callWith pos f first (backTo pos (starEach es env)) []) := by
  have few : methodCallForm (es.length + 0) (backTo pos (starEach es env)) [] = true := by
    unfold methodCallForm
    rw [form_plain hp]
    simpa using hn
  have e0 : eval (.Call (.Attribute o name apos) es [] pos) env = (do
      let ov ← attributeBase o name env (eval o env)
      standAt apos.atName
      methodCall o name apos pos env ov (es.length + 0) (backTo pos (starEach es env)) []) := rfl
  rw [e0]
  have e1 : attributeBase o name env (eval o env) = eval o env := by cases o <;> first | rfl | cases ho
  rw [e1]
  unfold methodCall calleeOf methodCallPos
  simp only [few, hl, if_true, Bool.not_true, Bool.false_or, pure_bind]

theorem getL_none {P : Params} {f g : Str} {t v es} (h : (g == f) = false) (hr : getL f es = some none) : getL f (fieldE P g t v :: es) = some none := by
  unfold getL fieldE at *
  rw [List.find?_cons]
  simp only [show (Value.str g t).isStr f = (g == f) from rfl, h]
  cases e : List.find? (fun x => x.key.isStr f) es with
  | some e' => simp only [e] at hr; cases hr
  | none =>
    simp only [e] at hr ⊢
    split at hr
    · cases hr
    · rename_i h2
      rw [List.any_cons]
      rw [if_neg]
      simp only [Bool.or_eq_true, not_or]
      exact ⟨by show ¬ (false = true); simp, h2⟩
theorem getL_nil (f : Str) : getL f [] = some none := rfl

/-- a method of a class of the program -/
structure MtNm (cx : Cx) (C : Addr) (m : Str) (f : Addr) : Prop where
  find : findIn cx.K (.ref C) m = some (some (.ref f))
  isfn : isFn cx.K (.ref f) = true
  fn : ∃ o fd, cx.K.lookup f = some o ∧ o.data = .func fd

theorem ne_of_fld {m g : Str} (h : fldOf m = none) (hg : (fldOf g).isSome = true) : (g == m) = false := by
  cases e : g == m with
  | false => rfl
  | true => rw [beq_iff_eq.mp e, h] at hg; cases hg

theorem method_of {A : Around} {E : Value → Shared → Prop} {s : Shared} {B : Heap} {ρ : List Addr} {v : Value} {u : V} {m : Str} {f : Addr} {pl : Sem Bool} {Q : Value × List Value → Shared → Prop} (hk : CxOk cx) (hb : Le cx.base s.heap) (hB : Le B s.heap) (r : RepV cx B ρ v u) (hm : fldOf m = none)
    (hu : (∃ k p t, u = .circ k p t) ∧ MtNm cx cx.cC m f ∨ (∃ k p t inp a b c, u = .ctr k p t inp a b c) ∧ MtNm cx cx.cT m f) (q : Q (.ref f, [v]) s) : wpAny (model cx.prog cx.w) A (getMethod v m pl) Q E s := by
  have X := Frag.In.keeps hk.inK hb
  rcases hu with ⟨⟨k, p, t, rfl⟩, M⟩ | ⟨⟨k, p, t, inp, a, b, c, rfl⟩, M⟩
  · have r : CircIs cx B ρ v k p t := r
    cases r with | mk h1 h2 h3 h4 h5 =>
    refine method_fn X (od := some (dictOf _ _)) ⟨hB _ _ h4, rfl, rfl, hB _ _ h5⟩ (plainGet_of hk.gC).1 (plainGet_of hk.gC).2 M.find (beq_iff_eq.mp M.isfn) ?_ q
    show (lookIn m (dictOf _ _)).map _ = _
    rw [lookIn_dict, getL_none (ne_of_fld hm (by decide)) (getL_none (ne_of_fld hm (by decide)) (getL_none (ne_of_fld hm (by decide)) (getL_nil m)))]; rfl
  · have r : CtrIs cx B ρ v k p t inp a b c := r
    cases r with | mk h1 h2 h3 hc hi h4 h5 =>
    refine method_fn X (od := some (dictOf _ _)) ⟨hB _ _ h4, rfl, rfl, hB _ _ h5⟩ (plainGet_of hk.gT).1 (plainGet_of hk.gT).2 M.find (beq_iff_eq.mp M.isfn) ?_ q
    show (lookIn m (dictOf _ _)).map _ = _
    rw [lookIn_dict, getL_none (ne_of_fld hm (by decide)) (getL_none (ne_of_fld hm (by decide)) (getL_none (ne_of_fld hm (by decide)) (getL_none (ne_of_fld hm (by decide)) (getL_none (ne_of_fld hm (by decide)) (getL_nil m)))))]; rfl

theorem T_meth {m : Str} {f : Addr} {ap p : Pos} {o : Expr} {es : List Expr} {u : V} {vs : List V} {v : V} (ho : attrBase o = true) (hl : (ap.endLine == p.line) = true) (hp : es.all plainE = true) (hn : es.length < 30) (hm : fldOf m = none)
    (h₁ : TE cx n sc o F G u F₁ G₁) (hu : (∃ k p t, u = .circ k p t) ∧ MtNm cx cx.cC m f ∨ (∃ k p t inp a b c, u = .ctr k p t inp a b c) ∧ MtNm cx cx.cT m f)
    (ha : (es = [] ∧ vs = [] ∧ F' = F₁ ∧ G₂ = G₁) ∨ TA cx n sc es F₁ G₁ vs F' G₂ ∧ es ≠ []) (hc : CallOk cx n f (u :: vs) G₂ v G') :
    TE cx n sc (.Call (.Attribute o m ap) es [] p) F G v F' G' := by
  intro A env s₀ ρ₀ B ρ oa s ok R
  obtain ⟨ob, fd, hob, hd⟩ : ∃ o fd, cx.K.lookup f = some o ∧ o.data = .func fd := by rcases hu with ⟨_, M⟩ | ⟨_, M⟩ <;> exact M.fn
  refine MethodCall_ (wpAny_mono (h₁ A env s₀ ρ₀ B ρ oa s ok R) (fun x s₁ q => ?_) fun _ _ x => x) (eval_mcall ho hl hp hn)
  obtain ⟨B₁, ρ₁, oa₁, R₁, g₁, r₁⟩ := q
  refine method_of R₁.g.ok R₁.g.base R₁.g.sub r₁ hm hu ?_
  rcases ha with ⟨rfl, rfl, rfl, rfl⟩ | ⟨ha, h0⟩
  · refine callWith_meth0 hd (R₁.g.base _ _ (R₁.g.ok.inK _ _ hob)) ?_
    exact wpAny_mono (call_ft (oas := [none]) hc ok R₁ (.cons (o := none) (repV_X r₁) (repV_owned r₁) (fun a e => nomatch e) .nil)) (fun v s₂ q => PostE.after g₁ q) fun _ _ x => x
  · cases es with
    | nil => exact absurd rfl h0
    | cons e r =>
    refine callWith_fn hd (R₁.g.ok.inK _ _ hob) hp (wpAny_mono (ha A env s₀ ρ₀ B₁ ρ₁ oa₁ s₁ p ok R₁) (fun vals s₂ q => ?_) fun _ _ x => x)
    obtain ⟨B₂, ρ₂, oa₂, oas, R₂, g₂, r₂⟩ := q
    exact ⟨R₂.g.base, wpAny_mono (call_ft hc ok R₂ (.cons (o := none) (repV_X (r₁.mono g₂.le g₂.pre)) (repV_owned r₁) (fun a e => nomatch e) r₂)) (fun v s₃ q => PostE.after (g₁.trans g₂) q) fun _ _ x => x⟩

/-! get, index -/
theorem star2 {a b : Expr} {env : Env} {pos : Pos} (h1 : plainE a = true) (h2 : plainE b = true) : backTo pos (starEach [a, b] env) = [(false, eval a env), (false, eval b env)] := by
  rw [star_plain h1, star_plain h2]; rfl
theorem star1' {a : Expr} {env : Env} {pos : Pos} (h1 : plainE a = true) : backTo pos (starEach [a] env) = [(false, eval a env)] := by
  rw [star_plain h1]; rfl

theorem T_get {j : Nat} {x : Str} {px ap p : Pos} {a b : Expr} {u : V} {kvs : List (Int × PyData)} {i : Int} {y : PyData} (hx : oddName x = false) (hn : sc.nm[j]? = some (some x)) (hl : (ap.endLine == p.line) = true) (hp1 : plainE a = true) (hp2 : plainE b = true)
    (h₁ : TE cx n sc a F G (.d (.int i)) F₁ G₁) (h₂ : TE cx n sc b F₁ G₁ (.d y) F' G') (hu : getF F' j = some u) (hk : u = .od kvs ∨ u = .rd kvs) (hi' : getF F j = some u) :
    TE cx n sc (.Call (.Attribute (.Name x px) "get" ap) [a, b] [] p) F G (.d ((dget kvs i).getD y)) F' G' := by
  intro A env s₀ ρ₀ B ρ oa s ok R
  obtain ⟨val, h1, hv⟩ := R.e.vars j x u hn (getF_get hi')
  have di : ∀ {B' ρ' oa' s'}, Rel cx sc env s₀ ρ₀ F' G' B' ρ' oa' s' → Gr B ρ oa s.heap B' ρ' oa' s'.heap → ∃ a, val = .ref a ∧ a ≠ sysModules ∧ DiAt cx B' s'.heap a kvs := by
    intro B' ρ' oa' s' R' g
    obtain ⟨val', h1', h2'⟩ := R'.e.vars j x u hn (getF_get hu)
    have e := (h1.later R g).fn h1'
    subst e
    rcases hk with rfl | rfl
    · obtain ⟨a, e, rfl, hl⟩ := h2'; exact ⟨a, rfl, (R'.e.own j a e).2.2.2.2.2.2, hl⟩
    · obtain ⟨a, e, rfl, hl⟩ := h2'; exact ⟨a, rfl, (R'.e.own j a e).2.2.2.2.2.2, hl⟩
  obtain ⟨ad, rfl, hs, hd0⟩ : ∃ a, val = .ref a ∧ a ≠ sysModules ∧ DiAt cx B s.heap a kvs := by
    rcases hk with rfl | rfl
    · obtain ⟨a, e, rfl, hl⟩ := hv; exact ⟨a, rfl, (R.e.own j a e).2.2.2.2.2.2, hl⟩
    · obtain ⟨a, e, rfl, hl⟩ := hv; exact ⟨a, rfl, (R.e.own j a e).2.2.2.2.2.2, hl⟩
  refine MethodCall_ (load_var R.e.fn hx h1 ?_) (eval_mcall rfl hl (by simp [hp1, hp2]) (by simp))
  obtain ⟨kv0, hd0, _⟩ := hd0
  refine getMethod_builtin hd0.typeIs PySem.F.plainAttrs_dict PySem.F.slot_dict_get PySem.F.type_dict_get hd0.mapOf.noDict ?_
  rw [star2 hp1 hp2]
  refine wpAny_dict_get2 (knd := intKind cx.prog cx.w) (beq_sys hs) (two h₁ h₂ ok R fun c d s₂ B' ρ' oa' R' g r₁ r₂ => ?_)
  have r₁ : Rep cx.prog cx.w B' c (.int i) := r₁
  cases r₁
  obtain ⟨a', e, _, kv, hd, hr⟩ := di R' g
  cases e
  refine ⟨i, _, intKind_is _ _ _ _, hd.mapOf, PostE.after g (PostE.tok R' _ ?_)⟩
  show Rep cx.prog cx.w B' ((valueAt kv i).getD d) ((dget kvs i).getD y)
  cases e : dget kvs i with
  | none => rw [(vals_some hr i).2 e]; exact r₂
  | some z => obtain ⟨v, hv, rv⟩ := (vals_some hr i).1 z e; rw [hv]; exact rv

noncomputable def isI (i : Int) : Value → Bool
  | .int a _ => a == i
  | _ => false
theorem ints_isI {vs : List Value} {is : List Int} (h : IntsAre vs is) (i : Int) : vs.map (isI i) = is.map (· == i) := by
  induction h with
  | nil => rfl
  | cons n t _ ih => simp [isI, ih]
theorem T_index {ap p : Pos} {o a : Expr} {xs : List PyData} {is : List Int} {i : Int} {j : Nat} (ho : attrBase o = true) (hl : (ap.endLine == p.line) = true) (hp : plainE a = true) (h₁ : TE cx n sc o F G (.d (.list xs)) F₁ G₁) (h₂ : TE cx n sc a F₁ G₁ (.d (.int i)) F' G')
    (hz : szOk xs.length = true) (hi : asInts xs = some is) (hj : is.findIdx? (· == i) = some j) : TE cx n sc (.Call (.Attribute o "index" ap) [a] [] p) F G (.d (.int j)) F' G' := by
  intro A env s₀ ρ₀ B ρ oa s ok R
  refine MethodCall_ (wpAny_mono (h₁ A env s₀ ρ₀ B ρ oa s ok R) (fun x s₁ q => ?_) fun _ _ x => x) (eval_mcall ho hl (by simp [hp]) (by simp))
  obtain ⟨B₁, ρ₁, oa₁, R₁, g₁, r₁⟩ := q
  have r : Rep cx.prog cx.w B₁ x (.list xs) := r₁
  obtain ⟨ad, vs, rfl, hl, hr⟩ := rep_list r
  have hI := ints_of_rep hr hi
  have e1 := hr.length
  simp only [Array.length_toList] at e1
  obtain ⟨m, hobj⟩ := plain_mono R₁.g.sub hl
  refine getMethod_builtin (Heap.IsList.typeIs ⟨_, hobj, rfl, m, rfl⟩) PySem.F.plainAttrs_list PySem.F.slot_list_index PySem.F.type_list_index (fun b e => by cases e; exact ⟨_, hobj, rfl⟩) ?_
  rw [star1' hp]
  refine method1_meets PySem.F.slot_list_index PySem.F.entry_list_index (wpAny_mono (h₂ A env s₀ ρ₀ B₁ ρ₁ oa₁ s₁ ok R₁) (fun c s₂ q => ?_) fun _ _ x => x)
  obtain ⟨B₂, ρ₂, oa₂, R₂, g₂, r₂⟩ := q
  have r₂ : Rep cx.prog cx.w B₂ c (.int i) := r₂
  cases r₂ with | int _ tt =>
  obtain ⟨m2, hobj2⟩ := plain_mono R₂.g.sub (plain_mono g₂.le hl)
  obtain ⟨hj1, hj2⟩ := List.findIdx?_eq_some_iff_getElem.mp hj
  have hmap := ints_isI hI i
  have hat : ∀ k (h : k < vs.size) (h' : k < is.length), isI i vs[k] = (is[k] == i) := fun k h h' => by
    have := congrArg (fun l => l[k]?) hmap
    simpa [h, h'] using this
  have hlen : is.length = vs.size := by have := hI.length; simpa using this.symm
  have := szOk_line hz
  rw [sizeLine_eq] at this
  refine ⟨Heap.IsList.typeIs ⟨_, hobj2, rfl, m2, rfl⟩, PySem.F.args_list_index_2 _ _, _, MeetsSeq.list_index ad vs m2 (.int i tt) (isI i) (fun y hy => ?_) j (by lia) (by lia) ?_ ?_, hobj2, ?_⟩
  · obtain ⟨k, hk, rfl⟩ := Array.getElem_of_mem hy
    obtain ⟨a, t, e, _⟩ := hI.at k vs[k] (by simp [hk])
    rw [e]; exact MeetsSeq.EqGives.int a i t tt
  · rw [hat j (by lia) hj1]; exact hj2.1
  · intro k hk hkj
    rw [hat k hk (by lia)]
    have := hj2.2 k hkj
    simpa using this
  · exact PostE.after (g₁.trans g₂) (PostE.tok R₂ _ (Rep.int _ _))
end
end Mine
namespace Mine
open PySem PySem.W PySem.Calls PyProof.Rows

noncomputable def setA (oa : List (Option Addr)) (i : Nat) (o : Option Addr) : List (Option Addr) := (oa ++ List.replicate (i + 1 - oa.length) none).set i o
theorem getD_pad (oa : List (Option Addr)) (k j : Nat) : (oa ++ List.replicate k none).getD j none = oa.getD j none := by
  simp only [List.getD_eq_getElem?_getD, List.getElem?_append]
  split
  · rfl
  · rename_i h
    rw [List.getElem?_replicate]
    split <;> simp [List.getElem?_eq_none (Nat.le_of_not_lt h)]
theorem getD_setA (oa : List (Option Addr)) (i j : Nat) (o : Option Addr) : (setA oa i o).getD j none = if j = i then o else oa.getD j none := by
  unfold setA
  by_cases h : j = i
  · subst h
    have hl : j < (oa ++ List.replicate (j + 1 - oa.length) none).length := by simp; lia
    rw [if_pos rfl]
    simp only [List.getD_eq_getElem?_getD, List.getElem?_set_self hl, Option.getD_some]
  · rw [if_neg h]
    rw [← getD_pad oa (i + 1 - oa.length) j]
    simp only [List.getD_eq_getElem?_getD, List.getElem?_set_ne (Ne.symm h)]

section
variable {cx : Cx} {n : Nat} {sc : Sc} {F F' F₁ F₂ : List (Option V)} {G G' G₁ G₂ : List O} {B : Heap} {ρ : List Addr} {env : Env} {oa : List (Option Addr)} {s₀ s : Shared} {ρ₀ : List Addr}

noncomputable def canSt (sc : Sc) (x : Str) : Prop := sc.kind x = some .local ∨ sc.kind x = some .cell

theorem store_rel {M : Model} {A : Around} {E : Value → Shared → Prop} {Q : Unit → Shared → Prop} (R : Rel cx sc env s₀ ρ₀ F G B ρ oa s) {i : Nat} {x : Str} {val : Value} {v : V} {o : Option Addr} (hn : sc.nm[i]? = some (some x)) (hk : canSt sc x)
    (r : RepX cx B ρ s.heap o val v) (ho : (o = none ∧ v.owned = false) ∨ (∃ a, o = some a ∧ Free cx env B ρ oa a ∧ s₀.heap.get? a = none ∧ (s.heap.get? a).isSome))
    (q : ∀ s', Rel cx sc env s₀ ρ₀ (setF F i (some v)) G B ρ (setA oa i o) s' →
      (∀ b ob, b ≠ env.locals → (∀ y c, env.cells.lookup y = some c → c ≠ b) → s.heap.get? b = some ob → s'.heap.get? b = some ob) → Q () s') : wpAny M A (storeName env x val) Q E s := by
  obtain ⟨m, hns⟩ := R.e.ns
  obtain ⟨h0, t0, e0⟩ := R.same
  have hfn := R.e.fn
  have lo := R.e.lout
  have out : ∀ b, b ∈ ρ → b ≠ env.locals ∧ ∀ y c, env.cells.lookup y = some c → c ≠ b := fun b hb => ⟨fun e => lo.2.2.1 (e ▸ hb), fun y c hc e => (R.e.cell y c hc).2.2.2.1 (e ▸ hb)⟩
  have oL : ∀ a, o = some a → a ≠ env.locals ∧ ∀ y c, env.cells.lookup y = some c → c ≠ a := fun a ha => by
    rcases ho with ⟨e, _⟩ | ⟨a', e, f, _⟩
    · rw [e] at ha; cases ha
    · rw [e] at ha; cases ha; exact ⟨f.l, f.c⟩
  -- what is common to both
  have fin : ∀ (h' : Heap) (tk : Nat), (∀ b ob, b ≠ env.locals → (∀ y c, env.cells.lookup y = some c → c ≠ b) → s.heap.get? b = some ob → h'.get? b = some ob) →
      (∀ b ob, b ∉ ρ₀ → s₀.heap.get? b = some ob → h'.get? b = some ob) → (∃ m', h'.Ns env.locals m') → (∀ y c, env.cells.lookup y = some c → ∃ u, h'.IsCell c u) →
      VarIs env h' x val → (∀ y u, y ≠ x → VarIs env s.heap y u → VarIs env h' y u) → Q () { s with heap := h', toks := tk } := by
    intro h' tk k k0 ns' cl' vx vy
    refine q _ { same := ⟨h', tk, by rw [e0]⟩, keep := k0, pre := R.pre, newR := R.newR, nB := R.nB, g := ?_, e := ?_ } k
    · exact { ok := R.g.ok, base := fun a ob e => k a ob (by first | exact ne_get e (lo.2.1) | exact ne_iss e (lo.2.1) | exact ne_get (lo.2.1) e | (rintro rfl; rw [lo.2.1] at e; cases e)) (fun y c hc e' => by have := (R.e.cell y c hc).2.2.1; rw [e', e] at this; cases this) (R.g.base a ob e),
              sub := fun a ob e => k a ob (by first | exact ne_get e (lo.1) | exact ne_iss e (lo.1) | exact ne_get (lo.1) e | (rintro rfl; rw [lo.1] at e; cases e)) (fun y c hc e' => by have := (R.e.cell y c hc).2.1; rw [e', e] at this; cases this) (R.g.sub a ob e),
              nd := R.g.nd, out := R.g.out, bsys := R.g.bsys, len := R.g.len,
              obj := fun j ob hj => let ⟨a, ha, hob⟩ := R.g.obj j ob hj; ⟨a, ha, hob.mono (Le.refl B) fun ob e => k a ob (out a (List.mem_of_getElem? ha)).1 (out a (List.mem_of_getElem? ha)).2 e⟩ }
    · refine { fn := hfn, gl := R.e.gl, bl := R.e.bl, kinds := R.e.kinds, ns := ns', lout := lo, cell := fun y c hc => ⟨cl' y c hc, (R.e.cell y c hc).2⟩, hasC := R.e.hasC, inj := R.e.inj, nmInj := R.e.nmInj, vars := ?_, own := ?_, ownI := ?_ }
      · intro j y u hj hu
        rw [getD_setA]
        rcases set_get hu with ⟨rfl, e⟩ | ⟨e1, e2⟩
        · cases e
          rw [hn] at hj; cases hj
          rw [if_pos rfl]
          exact ⟨val, vx, r.mono (Le.refl B) (List.prefix_refl ρ) fun a ha ob e => k a ob (oL a ha).1 (oL a ha).2 e⟩
        · rw [if_neg e1]
          obtain ⟨val', v1, v2⟩ := R.e.vars j y u hj e2
          refine ⟨val', vy y val' (fun e => e1 (R.e.nmInj j i x (e ▸ hj) hn)) v1, v2.mono (Le.refl B) (List.prefix_refl ρ) fun a ha ob e => ?_⟩
          obtain ⟨_, _, _, _, a4, a5, _⟩ := R.e.own j a ha
          exact k a ob a4 a5 e
      · intro j a ha
        rw [getD_setA] at ha
        split at ha
        · rcases ho with ⟨e, _⟩ | ⟨a', e, f, f0, f1⟩
          · rw [e] at ha; cases ha
          · rw [e] at ha; cases ha
            obtain ⟨ob, hob⟩ := Option.isSome_iff_exists.mp f1
            exact ⟨by rw [k a ob f.l f.c hob]; rfl, f.b, f.base, f.r, f.l, f.c, f.n⟩
        · obtain ⟨a0, a1, a2, a3, a4, a5, a6⟩ := R.e.own j a ha
          obtain ⟨ob, hob⟩ := Option.isSome_iff_exists.mp a0
          exact ⟨by rw [k a ob a4 a5 hob]; rfl, a1, a2, a3, a4, a5, a6⟩
      · intro j u a hu how ha
        rw [getD_setA] at ha
        rcases set_get hu with ⟨rfl, e⟩ | ⟨e1, e2⟩
        · cases e
          rw [if_pos rfl] at ha
          rcases ho with ⟨e, e'⟩ | ⟨a', e, f, f0, _⟩
          · rw [e] at ha; cases ha
          · rw [e] at ha; cases ha
            refine ⟨f0, fun l hl => ?_⟩
            rw [getD_setA] at hl
            split at hl
            · assumption
            · exact absurd hl (f.o l)
        · rw [if_neg e1] at ha
          obtain ⟨c1, c2⟩ := R.e.ownI j u a e2 how ha
          refine ⟨c1, fun l hl => ?_⟩
          rw [getD_setA] at hl
          split at hl
          · rcases ho with ⟨e, _⟩ | ⟨a', e, f, _⟩
            · rw [e] at hl; cases hl
            · rw [e] at hl; cases hl; exact absurd ha (f.o j)
          · exact c2 l hl
  rcases hk with hk | hk
  · have hkl : env.kindOf x = some .local := R.e.kinds x _ hk
    refine wpAny_storeName_local hkl hns (fun h' hn' sb => ?_) (by rw [hfn]; rfl)
    refine fin h' _ (fun b ob h1 _ e => (sb.2 b h1).trans e) (fun b ob hb e => (sb.2 b (by first | exact ne_get e (lo.2.2.2) | exact ne_iss e (lo.2.2.2) | exact ne_get (lo.2.2.2) e | (rintro rfl; rw [lo.2.2.2] at e; cases e))).trans (R.keep b ob hb e)) ⟨_, hn'⟩
      (fun y c hc => ?_) (.inl ⟨hkl, _, hn', by simp⟩) fun y u hy v => ?_
    · obtain ⟨⟨u, ob, ho, hd⟩, _, _, _, h1, _⟩ := R.e.cell y c hc
      exact ⟨u, ob, (sb.2 c h1).trans ho, hd⟩
    · rcases v with ⟨k1, m1, hm1, hm2⟩ | ⟨k1, c, hc, ob, ho, hd⟩
      · refine .inl ⟨k1, _, hn', ?_⟩
        rw [if_neg hy]
        obtain ⟨o1, es1, ep1, a1, a2, _, a4⟩ := hns
        obtain ⟨o2, es2, ep2, b1, b2, _, b4⟩ := hm1
        rw [a1] at b1; cases b1; rw [a2] at b2; cases b2
        rw [← a4, b4]; exact hm2
      · exact .inr ⟨k1, c, hc, ob, (sb.2 c (R.e.cell y c hc).2.2.2.2.1).trans ho, hd⟩
  · have hkc : env.kindOf x = some .cell := R.e.kinds x _ hk
    obtain ⟨c, hc⟩ := Option.isSome_iff_exists.mp (R.e.hasC x (.inl hk))
    obtain ⟨⟨u0, hcell⟩, c1, c2, c3, c4, c5⟩ := R.e.cell x c hc
    refine wpAny_storeName_cell hfn hkc hc hcell fun h' hc' sb => ?_
    refine fin h' s.toks (fun b ob _ h2 e => (sb.2 b (Ne.symm (h2 x c hc))).trans e) (fun b ob hb e => (sb.2 b (by first | exact ne_get e (c5 hk) | exact ne_iss e (c5 hk) | exact ne_get (c5 hk) e | (rintro rfl; rw [c5 hk] at e; cases e))).trans (R.keep b ob hb e)) ⟨_, hns.at' fun ob e => (sb.2 _ (Ne.symm c4)).trans e⟩
      (fun y c' hc'' => ?_) (.inr ⟨.inl hkc, c, hc, hc'⟩) fun y u hy v => ?_
    · by_cases e : c' = c
      · subst e; exact ⟨_, hc'⟩
      · obtain ⟨⟨u, ob, ho, hd⟩, _⟩ := R.e.cell y c' hc''
        exact ⟨u, ob, (sb.2 c' e).trans ho, hd⟩
    · rcases v with ⟨k1, m1, hm1, hm2⟩ | ⟨k1, c', hc'', ob, ho, hd⟩
      · exact .inl ⟨k1, m1, hm1.at' fun ob e => (sb.2 _ (Ne.symm c4)).trans e, hm2⟩
      · refine .inr ⟨k1, c', hc'', ob, (sb.2 c' ?_).trans ho, hd⟩
        first | exact fun q => hy (R.e.inj y x _ (q ▸ hc'') hc) | (rintro rfl; exact hy (R.e.inj y x _ hc'' hc))
end
end Mine
namespace Mine
open PySem PySem.W PySem.Calls PyProof.Rows

/-- an iterator over data of B -/
structure IterOk (cx : Cx) (A : Around) (B : Heap) (I : Addr) (xs : List PyData) (fp : List Addr) (P : Nat → Value → Prop) (St : Nat → Heap → Prop) : Prop where
  w : Walks cx.prog cx.w A I fp [I] xs.length P St
  fp : ∀ b ∈ fp, b = I ∨ (B.get? b).isSome
  item : ∀ i v, P i v → ∃ x, xs[i]? = some x ∧ Rep cx.prog cx.w B v x
  nolet : ∀ (i : Nat) (t : Expr) (v : Value) (s : Shared) (Q : Unit → Shared → Prop) (E : Value → Shared → Prop), St i s.heap → Q () s → wpAny (model cx.prog cx.w) A (letOwnedTupleGo t (.ref I) v) Q E s
  alive : ∀ i h, St i h → (h.get? I).isSome

theorem IterOk.still {cx : Cx} {A : Around} {B : Heap} {I : Addr} {xs : List PyData} {fp : List Addr} {P : Nat → Value → Prop} {St : Nat → Heap → Prop} (it : IterOk cx A B I xs fp P St) {i : Nat} {h h' : Heap} (x : St i h)
    (kI : ∀ o, h.get? I = some o → h'.get? I = some o) (l : Le B h) (l' : Le B h') : St i h' :=
  it.w.frame _ _ _ x fun b hb o e => by
    rcases it.fp b hb with q | hb
    · rw [q] at e ⊢; exact kI o e
    · obtain ⟨ob, hob⟩ := Option.isSome_iff_exists.mp hb
      rw [l _ _ hob] at e
      rw [l' _ _ hob, e]
theorem all2 {α : Type} {p : α → Prop} {a b : α} (h1 : p a) (h2 : p b) : ∀ x ∈ [a, b], p x := by
  intro x h
  cases h with
  | head => exact h1
  | tail _ h => cases h with
    | head => exact h2
    | tail _ h => cases h
section
variable {cx : Cx} {n : Nat} {sc : Sc} {F F' F₁ F₂ : List (Option V)} {G G' G₁ G₂ : List O} {B : Heap} {ρ : List Addr} {env : Env} {oa : List (Option Addr)} {s₀ s : Shared} {ρ₀ : List Addr}

theorem nolet_of {A : Around} {E : Value → Shared → Prop} {s : Shared} {Q : Unit → Shared → Prop} {M : Model} {T : String} {I : Addr} {t : Expr} {v : Value} {o : Obj} {vs : Array Value} (ho : s.heap.get? I = some o) (hc : o.cls = .type T) (hd : o.data = .fields vs)
    (hT : ["enumerate", "zip", "dict_itemiterator", "dict_reverseitemiterator", "odict_iterator", "itertools.zip_longest", "itertools.pairwise"].contains T = false) (q : Q () s) : wpAny M A (letOwnedTupleGo t (.ref I) v) Q E s := by
  have key : ∀ a, wpAny M A (do
      let o ← load I
      match o.cls, o.data with
      | .type n, .fields vs =>
        if ["enumerate", "zip", "dict_itemiterator", "dict_reverseitemiterator", "odict_iterator", "itertools.zip_longest", "itertools.pairwise"].contains n && vs[0]? == some (rawInt a) then
          rule "for.unpacks-the-owned-tuple"
          updateField I 0 .none
      | _, _ => pure ()) Q E s := by
    intro a
    refine wpAny_bind (wpAny_load ho ?_)
    rw [hc, hd]
    dsimp only
    rw [hT, Bool.false_and]
    exact wpAny_pure q
  cases t <;> first | exact wpAny_pure q | (cases v <;> first | exact key _ | exact wpAny_pure q)

theorem rep_idx {vs : Array Value} {xs : List PyData} (r : RepAll cx.prog cx.w B vs.toList xs) (i : Nat) (v : Value) (h : vs[i]? = some v) : ∃ x, xs[i]? = some x ∧ Rep cx.prog cx.w B v x := by
  have e := r.length
  have hi : i < xs.length := by
    have := (Array.getElem?_eq_some_iff.mp h).1
    simp only [Array.length_toList] at e; lia
  obtain ⟨v', h1, h2⟩ := r.get (List.getElem?_eq_getElem hi)
  have : v' = v := by
    rw [← Array.getElem?_toList] at h; rw [h] at h1; exact (Option.some.inj h1).symm
  subst this
  exact ⟨_, List.getElem?_eq_getElem hi, h2⟩

theorem repVals_keys {kv : List (Int × Value)} {qs : List (Int × PyData)} (h : RepVals cx B kv qs) : kv.map (·.1) = qs.map (·.1) := by
  induction h with
  | nil => rfl
  | cons _ _ ih => simpa using ih

/-- an iterator of a value -/
theorem itemsV_d {x : PyData} {xs : List PyData} (h : itemsV (.d x) = some xs) : x = .list xs ∨ x = .tuple xs ∨ ∃ kvs q, x = .dict kvs ∧ asKvs kvs = some q ∧ q.map (fun p => PyData.int p.1) = xs := by
  cases x with
  | list ys => cases h; exact .inl rfl
  | tuple ys => cases h; exact .inr (.inl rfl)
  | dict kvs =>
    obtain ⟨q, hq, e⟩ := Option.map_eq_some_iff.mp h
    exact .inr (.inr ⟨kvs, q, rfl, hq, e⟩)
  | _ => cases h
theorem fp1 {B : Heap} {I a : Addr} (h : (B.get? a).isSome) : ∀ b ∈ [I, a], b = I ∨ (B.get? b).isSome := all2 (.inl rfl) (.inr h)
theorem iter_any {A : Around} {E : Value → Shared → Prop} (hh : A.handled = none) (R : Rel cx sc env s₀ ρ₀ F G B ρ oa s) {val : Value} {v : V} {xs : List PyData} (r : RepV cx B ρ val v) (hx : itemsV v = some xs)
    {Q : Value → Shared → Prop} (q : ∀ o, (∃ fp P St, IterOk cx A B s.heap.objs.size xs fp P St ∧ St 0 (s.heap.push o)) → o.isFreed = false → Q (.ref s.heap.objs.size) { s with heap := s.heap.push o }) :
    wpAny (model cx.prog cx.w) A (pyIter val) Q E s := by
  have l := R.g.sub
  cases v with
  | d x =>
    have r : Rep cx.prog cx.w B val x := r
    rcases itemsV_d hx with rfl | rfl | ⟨kvs, qs, rfl, hq, rfl⟩
    · obtain ⟨a, vs, rfl, hl, hr⟩ := rep_list r
      have e := hr.length
      simp only [Array.length_toList] at e
      have hl' := (plain_mono l hl).isList
      have hne : a ≠ s.heap.objs.size := by obtain ⟨o, ho, _⟩ := hl'; exact Nat.ne_of_lt (Heap.lt_size ho)
      refine wpAny_pyIter_list hl' (q _ ⟨_, _, _, ⟨e ▸ Walks.list hh s.heap.objs.size a hne vs, ?_, fun i v h => rep_idx hr i v h, ?_, ?_⟩, ⟨_, Heap.get?_push_size _ rfl, rfl, rfl⟩, hl'.push _⟩ rfl)
      · obtain ⟨_, ho⟩ := hl
        exact fp1 (Option.isSome_of_eq_some ho)
      · rintro i t v s Q E ⟨⟨o, ho, hc, hd⟩, _⟩ q; exact nolet_of ho hc hd (by decide) q
      · rintro i h ⟨⟨o, ho, _⟩, _⟩; rw [ho]; rfl
    · obtain ⟨a, vs, rfl, hl, hr⟩ := rep_tuple r
      have e := hr.length
      simp only [Array.length_toList] at e
      have hl' := isTup_mono l hl
      have hne : a ≠ s.heap.objs.size := by obtain ⟨o, ho, _⟩ := hl'; exact Nat.ne_of_lt (Heap.lt_size ho)
      refine iter_tuple hl' (q _ ⟨_, _, _, ⟨e ▸ Walks.tuple hh s.heap.objs.size a hne vs, ?_, fun i v h => rep_idx hr i v h, ?_, ?_⟩, ⟨_, Heap.get?_push_size _ rfl, rfl, rfl⟩, isTup_mono (fun _ _ e => Heap.get?_push_of_some _ e) hl'⟩ rfl)
      · obtain ⟨_, ho, _⟩ := hl
        exact fp1 (Option.isSome_of_eq_some ho)
      · rintro i t v s Q E ⟨⟨o, ho, hc, hd⟩, _⟩ q; exact nolet_of ho hc hd (by decide) q
      · rintro i h ⟨⟨o, ho, _⟩, _⟩; rw [ho]; rfl
    · obtain ⟨a, kv, rfl, hd, hr⟩ := rep_dict r
      have hv := repKv_vals hr hq
      have keys : kv.map (·.1) = qs.map (·.1) := repVals_keys hv
      have hlen : kv.length = qs.length := by simpa using congrArg List.length keys
      obtain ⟨ep, hat⟩ := (hd.keep l).dictAt
      have hne : a ≠ s.heap.objs.size := Nat.ne_of_lt hat.lt_size
      obtain ⟨_, hBo⟩ : ∃ o, B.get? a = some o := by obtain ⟨_, _, _, e, _⟩ := hd; exact ⟨_, e⟩
      have hs : a ≠ sysModules := ne_get hBo R.g.bsys
      have hB : (B.get? a).isSome := Option.isSome_of_eq_some hBo
      refine wpAny_pyIter_dict (beq_sys hs) hat (q _ ⟨[s.heap.objs.size, a], fun i v => ∃ k x, kv[i]? = some (k, x) ∧ (intKind cx.prog cx.w).is k v = true, fun i h => h.IsKeyIter s.heap.objs.size a i kv.length ep ∧ Heap.DictAt (intKind cx.prog cx.w) h a kv ep,
        ⟨by rw [List.length_map, ← hlen]; exact Walks.dictKeys (knd := intKind cx.prog cx.w) hh s.heap.objs.size a hne kv ep, ?_, ?_, ?_, ?_⟩, ⟨_, Heap.get?_push_size _ rfl, rfl, rfl⟩, hat.push _⟩ rfl)
      · exact fp1 hB
      · rintro i v ⟨k, x, hk, hi⟩
        obtain ⟨t, rfl⟩ := Value.isInt_shape hi
        have : (kv.map (·.1))[i]? = some k := by simp [hk]
        rw [keys] at this
        refine ⟨.int k, ?_, .int _ _⟩
        simp only [List.getElem?_map, Option.map_eq_some_iff] at this ⊢
        obtain ⟨p, h1, h2⟩ := this
        exact ⟨p, h1, by rw [h2]⟩
      · rintro i t v s Q E ⟨⟨o, ho, hc, hd⟩, _⟩ q; exact nolet_of ho hc hd (by decide) q
      · rintro i h ⟨⟨o, ho, _⟩, _⟩; rw [ho]; rfl
  | rng a b =>
    simp only [itemsV] at hx
    split at hx
    · rename_i hb
      cases hx
      obtain ⟨rr, t, u, c, rfl, hr⟩ := r
      have hsm : Builtin.Range.small a b 1 = true := small_one (by lia) (by lia) (by lia) (by lia)
      have hsz : Builtin.Range.rangeSize a b 1 = (((b - a).toNat : Nat) : Int) := rangeSize_nat a b
      have hl : ((List.range (b - a).toNat).map fun i => PyData.int (a + (i : Nat))).length = (b - a).toNat := by simp
      refine wpAny_pyIter_range (l _ _ hr) hsm (q _ ⟨[s.heap.objs.size], fun i v => i < (b - a).toNat ∧ ∃ t, v = .int (a + (i : Int)) t, fun i h => IsRangeIter h s.heap.objs.size (a + (i : Nat) * 1) (((b - a).toNat : Int) - (i : Nat)) 1,
        ⟨by rw [hl]; exact (LCg.range_walks hh a (b - a).toNat).bound, ?_, ?_, ?_, ?_⟩, ?_⟩ rfl)
      · intro b hb; simp at hb; exact .inl hb
      · rintro i v ⟨hi, t, rfl⟩
        exact ⟨.int (a + (i : Nat)), by simp [hi], .int _ _⟩
      · rintro i t v s Q E h q; exact nolet_of h rfl rfl (by decide) q
      · rintro i h h'; rw [show h.get? _ = some _ from h']; rfl
      · show IsRangeIter _ _ (a + ((0 : Nat) : Int) * 1) ((((b - a).toNat : Nat) : Int) - ((0 : Nat) : Int)) 1
        rw [show a + ((0 : Nat) : Int) * 1 = a by simp, show (((b - a).toNat : Nat) : Int) - ((0 : Nat) : Int) = (((b - a).toNat : Nat) : Int) by simp, ← hsz]
        exact Heap.get?_push_size _ rfl
    · cases hx
  | h => cases hx
  | circ => cases hx
  | ctr => cases hx
  | _ => exact r.elim
end
end Mine
namespace Mine
open PySem PySem.W PySem.Calls PyProof.Rows

inductive TgIs (sc : Sc) : Expr → Tg → Prop
  | one {x p i} : sc.nm[i]? = some (some x) → canSt sc x → TgIs sc (.Name x p) (.one i)
  | two {x y px py k p i j} : sc.nm[i]? = some (some x) → canSt sc x → sc.nm[j]? = some (some y) → canSt sc y → TgIs sc (.Tuple [.Name x px, .Name y py] k p) (.two i j)

section
variable {cx : Cx} {n : Nat} {sc : Sc} {F F' F₁ F₂ : List (Option V)} {G G' G₁ G₂ : List O} {B : Heap} {ρ : List Addr} {env : Env} {oa : List (Option Addr)} {s₀ s : Shared} {ρ₀ : List Addr}

noncomputable def KeepE (env : Env) (h h' : Heap) : Prop := ∀ b ob, b ≠ env.locals → (∀ y c, env.cells.lookup y = some c → c ≠ b) → h.get? b = some ob → h'.get? b = some ob
theorem KeepE.trans {h h' h''} (x : KeepE env h h') (y : KeepE env h' h'') : KeepE env h h'' := fun b ob h1 h2 e => y b ob h1 h2 (x b ob h1 h2 e)
theorem KeepE.of {h h' : Heap} (k : ∀ b o, h.get? b = some o → h'.get? b = some o) : KeepE env h h' := fun b ob _ _ e => k b ob e

end

/-! what an expression takes from the frame -/
end Mine
namespace Mine
open PySem PySem.W PySem.Calls PyProof.Rows

/-- a comprehension's turns -/
inductive Steps (stp : PyData → List O → List PyData → List O → Prop) : List PyData → List O → List PyData → List O → Prop
  | nil {G} : Steps stp [] G [] G
  | cons {x r G zs G₁ ys G'} : stp x G zs G₁ → Steps stp r G₁ ys G' → Steps stp (x :: r) G (zs ++ ys) G'

/-- growth where the environment's own places and some more may change -/
structure Lg (ex : List Addr) (env : Env) (B : Heap) (ρ : List Addr) (oa : List (Option Addr)) (h : Heap) (B' : Heap) (ρ' : List Addr) (oa' : List (Option Addr)) (h' : Heap) : Prop where
  le : Le B B'
  pre : ρ <+: ρ'
  newR : ∀ a ∈ ρ', a ∈ ρ ∨ h.get? a = none
  nB : ∀ b, b ∉ ρ → B.get? b = none → (h.get? b).isSome → (∀ i : Nat, oa.getD i none ≠ some b) → B'.get? b = none
  keep : ∀ b o, b ∉ ρ → b ≠ env.locals → (∀ y c, env.cells.lookup y = some c → c ≠ b) → b ∉ ex → h.get? b = some o → h'.get? b = some o
  oaS : ∀ (i : Nat) (a : Addr), oa'.getD i none = some a → oa.getD i none = some a

section
variable {ex : List Addr} {env : Env} {B B' B'' h h' h'' : Heap} {ρ ρ' ρ'' : List Addr} {oa oa' oa'' : List (Option Addr)}
theorem Gr.lg (g : Gr B ρ oa h B' ρ' oa' h') : Lg ex env B ρ oa h B' ρ' oa' h' := ⟨g.le, g.pre, g.newR, g.nB, fun b o h1 _ _ _ e => g.keep b o h1 e, g.oaS⟩
theorem Lg.more {ex'} (g : Lg ex env B ρ oa h B' ρ' oa' h') (s : ∀ b ∈ ex, b ∈ ex') : Lg ex' env B ρ oa h B' ρ' oa' h' := ⟨g.le, g.pre, g.newR, g.nB, fun b o h1 h2 h3 h4 e => g.keep b o h1 h2 h3 (fun q => h4 (s b q)) e, g.oaS⟩

/-- a heap that is the same but at some of the free places -/
theorem Lg.heap (k : ∀ b o, b ≠ env.locals → (∀ y c, env.cells.lookup y = some c → c ≠ b) → b ∉ ex → h.get? b = some o → h'.get? b = some o) : Lg ex env B ρ oa h B ρ oa h' :=
  ⟨Le.refl B, List.prefix_refl ρ, fun _ h => .inl h, fun _ _ h _ _ => h, fun b o _ h2 h3 h4 e => k b o h2 h3 h4 e, fun _ _ e => e⟩
end

section
variable {cx : Cx} {n : Nat} {sc : Sc} {F F' F₁ F₂ : List (Option V)} {G G' G₁ G₂ : List O} {B B' : Heap} {ρ ρ' : List Addr} {env : Env} {oa oa' : List (Option Addr)} {s₀ s s' : Shared} {ρ₀ : List Addr} {ex : List Addr}

theorem Free.laterL {d : Addr} {h h' : Heap} (f : Free cx env B ρ oa d) (g : Lg ex env B ρ oa h B' ρ' oa' h') (hs : (h.get? d).isSome) : Free cx env B' ρ' oa' d where
  b := g.nB d f.r f.b hs f.o
  base := f.base
  r := fun q => by
    rcases g.newR d q with q | q
    · exact f.r q
    · rw [q] at hs; cases hs
  o := fun i e => f.o i (g.oaS i d e)
  l := f.l
  c := f.c
  n := f.n

/-- the free places ex are alive at the start: growths join -/
theorem Lg.trans {B'' ρ'' oa''} {h h' h'' : Heap} (x : Lg ex env B ρ oa h B' ρ' oa' h') (y : Lg ex env B' ρ' oa' h' B'' ρ'' oa'' h'')
    (al : ∀ b, (h.get? b).isSome → b ∉ ρ → (h'.get? b).isSome) : Lg ex env B ρ oa h B'' ρ'' oa'' h'' where
  le := x.le.trans y.le
  pre := x.pre.trans y.pre
  newR := fun a ha => by
    rcases y.newR a ha with q | q
    · exact x.newR a q
    · by_cases hr : a ∈ ρ
      · exact .inl hr
      · right
        cases e : h.get? a with
        | none => rfl
        | some o => have := al a (by rw [e]; rfl) hr; rw [q] at this; cases this
  nB := fun b hr hb hs ho => by
    refine y.nB b (fun q => ?_) (x.nB b hr hb hs ho) (al b hs hr) fun i q => ho i (x.oaS i b q)
    rcases x.newR b q with q | q
    · exact hr q
    · rw [q] at hs; cases hs
  keep := fun b o hr h2 h3 h4 e => y.keep b o (fun q => by
    rcases x.newR b q with q | q
    · exact hr q
    · rw [q] at e; cases e) h2 h3 h4 (x.keep b o hr h2 h3 h4 e)
  oaS := fun i a e => x.oaS i a (y.oaS i a e)

/-- what is alive stays alive -/
theorem Lg.alive {h' : Heap} (g : Lg ex env B ρ oa s.heap B' ρ' oa' h') (_ : Rel cx sc env s₀ ρ₀ F G B ρ oa s) (R' : Rel cx sc env s₀ ρ₀ F' G' B' ρ' oa' s') (hs' : s'.heap = h') (exF : ∀ b ∈ ex, (h'.get? b).isSome) : ∀ b, (s.heap.get? b).isSome → b ∉ ρ → (h'.get? b).isSome := by
  intro b hb hr
  by_cases h1 : b = env.locals
  · subst h1; obtain ⟨o, e⟩ := R'.locals_some; rw [← hs', e]; rfl
  · by_cases h2 : ∃ y c, env.cells.lookup y = some c ∧ c = b
    · obtain ⟨y, c, hc, rfl⟩ := h2
      obtain ⟨o, e⟩ := R'.cell_some hc; rw [← hs', e]; rfl
    · by_cases h3 : b ∈ ex
      · exact exF b h3
      · obtain ⟨o, e⟩ := Option.isSome_iff_exists.mp hb
        rw [g.keep b o hr h1 (fun y c hc e => h2 ⟨y, c, hc, e⟩) h3 e]; rfl

/-- less is known of the frame -/
theorem Rel.forget {F₃ : List (Option V)} (R : Rel cx sc env s₀ ρ₀ F G B ρ oa s) (h : ∀ (i : Nat) (v : V), F₃[i]? = some (some v) → F[i]? = some (some v)) : Rel cx sc env s₀ ρ₀ F₃ G B ρ oa s :=
  { same := R.same, keep := R.keep, pre := R.pre, newR := R.newR, nB := R.nB, g := R.g,
    e := { fn := R.e.fn, gl := R.e.gl, bl := R.e.bl, kinds := R.e.kinds, ns := R.e.ns, lout := R.e.lout, cell := R.e.cell, hasC := R.e.hasC, inj := R.e.inj, nmInj := R.e.nmInj,
           vars := fun i x v hi hv => R.e.vars i x v hi (h i v hv), own := R.e.own, ownI := fun i v a hv => R.e.ownI i v a (h i v hv) } }

noncomputable def below (F F' : Fr') : Prop := ∀ (i : Nat) (v : V), F[i]? = some (some v) → F'[i]? = some (some v)

inductive TurnR (cx : Cx) (sc : Sc) (env : Env) (s₀ : Shared) (ρ₀ : List Addr) (Fb : Fr') (G₁ : List O) (B : Heap) (ρ : List Addr) (oa : List (Option Addr)) (h : Heap) (D : Addr) (ys : List PyData) (s' : Shared) : Prop
  | mk (B' : Heap) (ρ' : List Addr) (oa' : List (Option Addr)) (acc' : Array Value) (F'' : Fr') : Rel cx sc env s₀ ρ₀ F'' G₁ B' ρ' oa' s' → below Fb F'' → Lg [D] env B ρ oa h B' ρ' oa' s'.heap → s'.heap.PlainList D acc' → RepAll cx.prog cx.w B' acc'.toList ys → TurnR cx sc env s₀ ρ₀ Fb G₁ B ρ oa h D ys s'
inductive LoopR (cx : Cx) (sc : Sc) (env : Env) (s₀ : Shared) (ρ₀ : List Addr) (Fb : Fr') (G₁ : List O) (B : Heap) (ρ : List Addr) (oa : List (Option Addr)) (h : Heap) (ex : List Addr) (D : Addr) (ys : List PyData) (r : Result) (s' : Shared) : Prop
  | mk : r = .ok .next → ∀ (B' : Heap) (ρ' : List Addr) (oa' : List (Option Addr)) (acc' : Array Value), Rel cx sc env s₀ ρ₀ Fb G₁ B' ρ' oa' s' → Lg ex env B ρ oa h B' ρ' oa' s'.heap → s'.heap.PlainList D acc' → RepAll cx.prog cx.w B' acc'.toList ys → LoopR cx sc env s₀ ρ₀ Fb G₁ B ρ oa h ex D ys r s'
/-- what a turn does behind the assignment of the target -/
noncomputable def TurnOk (cx : Cx) (sc : Sc) (A : Around) (env : Env) (s₀ : Shared) (ρ₀ : List Addr) (Fb : Fr') (tg : Tg) (D : Addr) (rest : Sem Unit) (stp : PyData → List O → List PyData → List O → Prop) (m : Nat) : Prop :=
  ∀ x zs G G₁ F' B ρ oa s acc ys, stp x G zs G₁ → bindT Fb tg x = some F' → Rel cx sc env s₀ ρ₀ F' G B ρ oa s → s.heap.PlainList D acc → RepAll cx.prog cx.w B acc.toList ys → Free cx env B ρ oa D → s₀.heap.get? D = none → (ys ++ zs).length ≤ m →
    wpAny (model cx.prog cx.w) A rest (fun _ s' => TurnR cx sc env s₀ ρ₀ Fb G₁ B ρ oa s.heap D (ys ++ zs) s') (fun _ _ => False) s

theorem bind_lg {A : Around} {E : Value → Shared → Prop} (hh : A.handled = none) (R : Rel cx sc env s₀ ρ₀ F G B ρ oa s) {e : Expr} {tg : Tg} (t : TgIs sc e tg) {val : Value} {x : PyData} (r : Rep cx.prog cx.w B val x) (hb : bindT F tg x = some F') {Q : Unit → Shared → Prop}
    (q : ∀ s' oa', Rel cx sc env s₀ ρ₀ F' G B ρ oa' s' → KeepE env s.heap s'.heap → (∀ (i : Nat) (a : Addr), oa'.getD i none = some a → oa.getD i none = some a) → Q () s') : wpAny (model cx.prog cx.w) A (assign e env val) Q E s := by
  have key : ∀ (oa : List (Option Addr)) (i j : Nat) (a : Addr), (setA oa i none).getD j none = some a → oa.getD j none = some a := fun oa i j a h => by
    rw [getD_setA] at h
    split at h
    · cases h
    · exact h
  cases t with
  | one hn hk =>
    cases hb
    exact assign_Name (store_rel (v := .d x) (o := none) R hn hk (repV_X (v := .d x) r) (.inl ⟨rfl, rfl⟩) fun s' R' k => q s' _ R' k (key _ _))
  | @two y z px py k p i j hn hk hn2 hk2 =>
    obtain ⟨u, v, rfl, rfl⟩ := bind_two hb
    · skip
      obtain ⟨a, v1, v2, rfl, ht, r1, r2⟩ := rep_pair r
      refine assign_Tuple_tuple hh (isTup_mono R.g.sub ht) rfl rfl fun h' he => ?_
      have kk : ∀ b o, s.heap.get? b = some o → h'.get? b = some o := fun b o e => he b o (Nat.ne_of_lt (Heap.lt_size e)) e
      have R1 := R.grow (tk := s.toks) kk
      show wpAny _ A (assignInOrder [assign (.Name y px) env, assign (.Name z py) env] [v1, v2]) Q E _
      refine wpAny_assignInOrder_more (assign_Name (store_rel (v := .d u) (o := none) R1 hn hk (repV_X (v := .d u) r1) (.inl ⟨rfl, rfl⟩) fun s' R' k' => ?_))
      refine wpAny_assignInOrder_more (assign_Name (store_rel (v := .d v) (o := none) R' hn2 hk2 (repV_X (v := .d v) r2) (.inl ⟨rfl, rfl⟩) fun s'' R'' k'' => ?_))
      exact wpAny_assignInOrder_none (q s'' _ R'' (KeepE.trans (KeepE.of kk) (KeepE.trans k' k'')) fun l a h => key _ _ _ _ (key _ _ _ _ h))

/-- the target's slots are empty in the frame -/
noncomputable def emptyAt (F : Fr') : Tg → Prop
  | .one i => getF F i = none
  | .two i j => getF F i = none ∧ getF F j = none
theorem below_bind {tg : Tg} {x : PyData} (he : emptyAt F tg) (hb : bindT F tg x = some F') : below F F' := by
  intro k v hk
  cases tg with
  | one i =>
    cases hb
    unfold setF
    rw [List.getElem?_set]
    split
    · rename_i e; subst e
      have he : getF F i = none := he
      unfold getF at he; rw [hk] at he; cases he
    · exact hk
  | two i j =>
    obtain ⟨u, w, rfl, rfl⟩ := bind_two hb
    · skip
      obtain ⟨h1, h2⟩ := he
      unfold setF
      rw [List.getElem?_set]
      split
      · rename_i e; rw [e] at h2; unfold getF at h2; rw [hk] at h2; cases h2
      · rw [List.getElem?_set]
        split
        · rename_i e; rw [e] at h1; unfold getF at h1; rw [hk] at h1; cases h1
        · exact hk
theorem comp_loop {A : Around} (hh : A.handled = none) {elt : Expr} {gens : List Comprehension} {scope : Scope} {pos : Pos} {dp : Nat} {I D : Addr} {target : Expr} {tg : Tg} {p : Pos} {rest : Sem Unit} {stp : PyData → List O → List PyData → List O → Prop} {Fb : Fr'} {m : Nat}
    {xs : List PyData} {fp : List Addr} {P : Nat → Value → Prop} {St : Nat → Heap → Prop} {Bs : Heap}
    (turn_eq : compTurn (.ListComp elt gens scope pos) dp (.ref I) (.ref D) env = (standAt p >>= fun _ => pyNext (.ref I) >>= fun r => match r with
      | none => pure (.done .next)
      | some v => letOwnedTupleGo target (.ref I) v >>= fun _ => assign target env v >>= fun _ => rest >>= fun _ => again (.compLoop (.ListComp elt gens scope pos) dp (.ref I) (.ref D) env)))
    (it : IterOk cx A Bs I xs fp P St) (t : TgIs sc target tg) (he : emptyAt Fb tg) (hDI : D ≠ I) (hI0 : s₀.heap.get? I = none) (hD0 : s₀.heap.get? D = none) (tk : TurnOk cx sc A env s₀ ρ₀ Fb tg D rest stp m)
    (hbT : ∀ x G zs G₁, stp x G zs G₁ → ∃ F', bindT Fb tg x = some F') :
    ∀ (k i : Nat) (G G' : List O) (ys zs : List PyData) (B : Heap) (ρ : List Addr) (oa : List (Option Addr)) (s : Shared) (acc : Array Value), i + k = xs.length → Steps stp (xs.drop i) G zs G' → (ys ++ zs).length ≤ m →
      Rel cx sc env s₀ ρ₀ Fb G B ρ oa s → Le Bs B → St i s.heap → s.heap.PlainList D acc → RepAll cx.prog cx.w B acc.toList ys → Free cx env B ρ oa D → Free cx env B ρ oa I →
      codeAny (model cx.prog cx.w) A (.compLoop (.ListComp elt gens scope pos) dp (.ref I) (.ref D) env) (LoopR cx sc env s₀ ρ₀ Fb G' B ρ oa s.heap [D, I] D (ys ++ zs)) s := by
  intro k
  induction k with
  | zero =>
    intro i G G' ys zs B ρ oa s acc hi hst hm R hB hSt hD hacc fD fI
    have hi : i = xs.length := by lia
    subst hi
    rw [List.drop_length] at hst
    cases hst
    refine codeAny_cps fun Q hQ => codeAny_of_tree ?_
    show wpAny _ A ((compTurn (.ListComp elt gens scope pos) dp (.ref I) (.ref D) env).onRaise (fun x => do noteFrame x env; theTreesLotGoes x)) _ _ s
    refine wpAny_noted ?_
    rw [turn_eq]
    refine wpAny_bind (wpAny_standAt (wpAny_bind (it.w.done s _ _ hSt fun h' tk' hk => wpAny_pure (hQ _ _ ⟨rfl, B, ρ, oa, acc, ?_, ?_, ?_, ?_⟩))))
    · exact R.setFree fI hI0 fun b o hb e => hk b o (by simpa using hb) e
    · exact Lg.heap fun b o _ _ h4 e => hk b o (fun q => h4 (by simp at q; simp [q])) e
    · obtain ⟨o, ho⟩ := hD
      exact ⟨o, hk D _ (by simpa using hDI) ho⟩
    · simpa using hacc
  | succ k ih =>
    intro i G G' ys zs B ρ oa s acc hi hst hm R hB hSt hD hacc fD fI
    have hlt : i < xs.length := by lia
    have hdrop : xs.drop i = xs[i] :: xs.drop (i + 1) := List.drop_eq_getElem_cons hlt
    rw [hdrop] at hst
    cases hst with | @cons _ _ _ zs₁ G₁ ys₁ _ h1 h2 =>
    refine codeAny_cps fun Q hQ => codeAny_of_tree ?_
    show wpAny _ A ((compTurn (.ListComp elt gens scope pos) dp (.ref I) (.ref D) env).onRaise (fun x => do noteFrame x env; theTreesLotGoes x)) _ _ s
    refine wpAny_noted ?_
    rw [turn_eq]
    refine wpAny_bind (wpAny_standAt (wpAny_bind (it.w.item i s _ _ hlt hSt fun v h' tk' hP hSt1 hk => ?_)))
    have hk : ∀ b o, b ≠ I → s.heap.get? b = some o → h'.get? b = some o := fun b o hb e => hk b o (by simpa using hb) e
    have R1 := R.setFree (tk := tk') fI hI0 hk
    refine wpAny_bind (it.nolet _ _ _ _ _ _ hSt1 ?_)
    obtain ⟨x', hx', rx⟩ := it.item i v hP
    rw [List.getElem?_eq_getElem hlt] at hx'; cases hx'
    obtain ⟨F', hF'⟩ := hbT _ _ _ _ h1
    refine wpAny_bind (bind_lg hh R1 t (rx.mono hB) hF' fun s2 oa2 R2 k2 hoa2 => ?_)
    obtain ⟨dep, hDo⟩ := id hD
    have hD1 : h'.get? D = some _ := hk D _ hDI hDo
    have hD2 := k2 D _ fD.l fD.c hD1
    obtain ⟨oI, hI1⟩ := Option.isSome_iff_exists.mp (it.alive _ _ hSt1)
    have hI2 := k2 I _ fI.l fI.c hI1
    have fD2 : Free cx env B ρ oa2 D := ⟨fD.b, fD.base, fD.r, fun j e => fD.o j (hoa2 j D e), fD.l, fD.c, fD.n⟩
    have fI2 : Free cx env B ρ oa2 I := ⟨fI.b, fI.base, fI.r, fun j e => fI.o j (hoa2 j I e), fI.l, fI.c, fI.n⟩
    have hSt2 : St (i + 1) s2.heap := it.still hSt1 (fun o e => k2 I o fI.l fI.c e) (hB.trans R1.g.sub) (hB.trans R2.g.sub)
    have g2 : Lg [D, I] env B ρ oa s.heap B ρ oa2 s2.heap := ⟨Le.refl B, List.prefix_refl ρ, fun _ h => .inl h, fun _ _ h _ _ => h, fun b o _ h2 h3 h4 e => k2 b o h2 h3 (hk b o (fun q => h4 (q ▸ .tail _ (.head _))) e), hoa2⟩
    refine wpAny_bind (wpAny_mono (tk _ zs₁ G G₁ F' B ρ oa2 s2 acc ys h1 hF' R2 ⟨_, hD2⟩ hacc fD2 hD0 (by simp at hm ⊢; lia)) (fun _ s3 r3 => ?_) fun _ _ x => x.elim)
    obtain ⟨B3, ρ3, oa3, acc3, F'', R3, bl, g3, hD3, hacc3⟩ := r3
    have fD3 := fD2.laterL g3 (by rw [hD2]; rfl)
    have fI3 := fI2.laterL g3 (by rw [hI2]; rfl)
    have hI3 := g3.keep I _ fI.r fI.l fI.c (mt List.mem_singleton.mp (Ne.symm hDI)) hI2
    have hSt3 : St (i + 1) s3.heap := it.still hSt2 (fun o e => g3.keep I o fI.r fI.l fI.c (mt List.mem_singleton.mp (Ne.symm hDI)) e) (hB.trans R2.g.sub) ((hB.trans g3.le).trans R3.g.sub)
    obtain ⟨d3, hDo3⟩ := id hD3
    have ex3 : ∀ b ∈ [D, I], (s3.heap.get? b).isSome := all2 (Option.isSome_of_eq_some hDo3) (Option.isSome_of_eq_some hI3)
    have g3' := g2.trans (g3.more fun b hb => List.mem_singleton.mp hb ▸ .head _) (g2.alive R R2 rfl (all2 (Option.isSome_of_eq_some hD2) (Option.isSome_of_eq_some hI2)))
    refine wpAny_pure ⟨rfl, codeAny_mono (ih (i + 1) G₁ G' (ys ++ zs₁) ys₁ B3 ρ3 oa3 s3 acc3 (by lia) h2 (by simp at hm ⊢; lia) (R3.forget bl) (hB.trans g3.le) hSt3 hD3 hacc3 fD3 fI3) fun r s' q => ?_⟩
    obtain ⟨rfl, B', ρ', oa', acc', R', g', hD', hacc'⟩ := q
    exact hQ _ _ ⟨rfl, B', ρ', oa', acc', R', g3'.trans g' (g3'.alive R R3 rfl ex3), hD', by rw [List.append_assoc] at hacc'; exact hacc'⟩
end
end Mine
namespace Mine
open PySem PySem.W PySem.Calls PyProof.Rows

noncomputable def clFrom (env : Env) : List (Str × NameKind) → List (Str × Addr) → List (Str × Addr)
  | [], acc => acc
  | (n, k) :: r, acc => if k == .free then clFrom env r ((n, (env.cells.lookup n).getD 0) :: acc) else clFrom env r acc
theorem closure_eq (env : Env) (f : Str × NameKind → List (Str × Addr) → Sem (ForInStep (List (Str × Addr)))) (hf : ∀ n k cs, f (n, k) cs = if k == .free then (do let a ← cellOf env n; pure (.yield ((n, a) :: cs))) else pure (.yield cs)) :
    ∀ (names : List (Str × NameKind)) (acc : List (Str × Addr)), (∀ x ∈ names, x.2 = .free → (env.cells.lookup x.1).isSome) → forIn names acc f = pure (clFrom env names acc)
  | [], acc, _ => by rw [List.forIn_nil]; rfl
  | (n, k) :: r, acc, h => by
    rw [List.forIn_cons, hf]
    unfold clFrom
    split
    · rename_i hk
      obtain ⟨c, hc⟩ := Option.isSome_iff_exists.mp (h (n, k) (.head _) (by simpa using hk))
      have : cellOf env n = pure c := by unfold cellOf; rw [hc]
      rw [this]
      simp only [pure_bind]
      rw [closure_eq env f hf r _ fun x hx => h x (.tail _ hx), hc]; rfl
    · simp only [pure_bind]
      exact closure_eq env f hf r acc fun x hx => h x (.tail _ hx)
theorem closureFor_eq {scope : Scope} {env : Env} (h : ∀ x ∈ scope.names, x.2 = .free → (env.cells.lookup x.1).isSome) : closureFor scope env = pure (clFrom env scope.names []) := by
  unfold closureFor
  dsimp only
  rw [closure_eq env _ (fun n k cs => by cases k == NameKind.free <;> simp) scope.names [] h]
  rfl
theorem clFrom_mem {env : Env} : ∀ {names : List (Str × NameKind)} {acc : List (Str × Addr)} {x : Str} {c : Addr}, (∀ x ∈ names, x.2 = .free → (env.cells.lookup x.1).isSome) → (x, c) ∈ clFrom env names acc → (x, c) ∈ acc ∨ ((x, .free) ∈ names ∧ env.cells.lookup x = some c)
  | [], _, _, _, _, h => .inl h
  | (n, k) :: r, acc, x, c, hs, h => by
    unfold clFrom at h
    split at h
    · rename_i hk
      have hk : k = .free := by simpa using hk
      subst hk
      rcases clFrom_mem (fun x hx => hs x (.tail _ hx)) h with q | ⟨q1, q2⟩
      · rcases List.mem_cons.mp q with e | q
        · cases e
          obtain ⟨c, hc⟩ := Option.isSome_iff_exists.mp (hs (n, .free) (.head _) rfl)
          exact .inr ⟨.head _, by rw [hc]; rfl⟩
        · exact .inl q
      · exact .inr ⟨.tail _ q1, q2⟩
    · rcases clFrom_mem (fun x hx => hs x (.tail _ hx)) h with q | ⟨q1, q2⟩
      · exact .inl q
      · exact .inr ⟨.tail _ q1, q2⟩
theorem lookup_some_of_mem {α : Type} {l : List (Str × α)} {x : Str} (h : ∃ c, (x, c) ∈ l) : (l.lookup x).isSome := by
  induction l with
  | nil => obtain ⟨c, hc⟩ := h; cases hc
  | cons p r ih =>
    obtain ⟨k, v⟩ := p
    rw [List.lookup_cons]
    cases e : x == k with
    | true => rfl
    | false =>
      obtain ⟨c, hc⟩ := h
      rcases List.mem_cons.mp hc with q | q
      · cases q; simp at e
      · exact ih ⟨c, q⟩
theorem clFrom_has {env : Env} : ∀ {names : List (Str × NameKind)} {acc : List (Str × Addr)} {x : Str}, ((x, .free) ∈ names ∨ ∃ c, (x, c) ∈ acc) → ∃ c, (x, c) ∈ clFrom env names acc
  | [], _, _, h => by
    rcases h with h | h
    · cases h
    · exact h
  | (n, k) :: r, acc, x, h => by
    unfold clFrom
    split
    · refine clFrom_has ?_
      rcases h with h | ⟨c, h⟩
      · rcases List.mem_cons.mp h with e | h
        · cases e; exact .inr ⟨_, .head _⟩
        · exact .inl h
      · exact .inr ⟨c, .tail _ h⟩
    · rename_i hk
      refine clFrom_has ?_
      rcases h with h | h
      · rcases List.mem_cons.mp h with e | h
        · cases e; simp at hk
        · exact .inl h
      · exact .inr h
theorem cellsFrom_append : ∀ (names : List (Str × NameKind)) (n : Nat) (a b : List (Str × Addr)), cellsFrom n names (a ++ b) = cellsFrom n names a ++ b
  | [], _, _, _ => rfl
  | (x, k) :: r, n, a, b => by
    unfold cellsFrom
    split
    · exact cellsFrom_append r (n + 1) ((x, n) :: a) b
    · exact cellsFrom_append r n a b
theorem cellsFrom_mem : ∀ {names : List (Str × NameKind)} {n : Nat} {acc : List (Str × Addr)} {x : Str} {c : Addr}, (x, c) ∈ cellsFrom n names acc → (x, c) ∈ acc ∨ (x, .cell) ∈ names
  | [], _, _, _, _, h => .inl h
  | (y, k) :: r, n, acc, x, c, h => by
    unfold cellsFrom at h
    split at h
    · rename_i hk
      have hk : k = .cell := by simpa using hk
      subst hk
      rcases cellsFrom_mem h with q | q
      · rcases List.mem_cons.mp q with e | q
        · cases e; exact .inr (.head _)
        · exact .inl q
      · exact .inr (.tail _ q)
    · rcases cellsFrom_mem h with q | q
      · exact .inl q
      · exact .inr (.tail _ q)
theorem cellsFrom_has : ∀ {names : List (Str × NameKind)} {n : Nat} {acc : List (Str × Addr)} {x : Str}, ((x, .cell) ∈ names ∨ ∃ c, (x, c) ∈ acc) → ∃ c, (x, c) ∈ cellsFrom n names acc
  | [], _, _, _, h => by
    rcases h with h | h
    · cases h
    · exact h
  | (y, k) :: r, n, acc, x, h => by
    unfold cellsFrom
    split
    · refine cellsFrom_has ?_
      rcases h with h | ⟨c, h⟩
      · rcases List.mem_cons.mp h with e | h
        · cases e; exact .inr ⟨_, .head _⟩
        · exact .inl h
      · exact .inr ⟨c, .tail _ h⟩
    · rename_i hk
      refine cellsFrom_has ?_
      rcases h with h | h
      · rcases List.mem_cons.mp h with e | h
        · cases e; simp at hk
        · exact .inl h
      · exact .inr h
theorem lookup_append' {α : Type} (l m : List (Str × α)) (x : Str) : (l ++ m).lookup x = (l.lookup x).or (m.lookup x) := by
  induction l with
  | nil => simp
  | cons p r ih =>
    obtain ⟨k, v⟩ := p
    rw [List.cons_append, List.lookup_cons, List.lookup_cons]
    cases x == k <;> simp [ih]
theorem lookup_of_mem_nodup {α : Type} {l : List (Str × α)} (hn : (l.map (·.1)).Nodup) {x : Str} {c : α} (h : (x, c) ∈ l) : l.lookup x = some c := by
  induction l with
  | nil => cases h
  | cons p r ih =>
    obtain ⟨k, v⟩ := p
    rw [List.map_cons, List.nodup_cons] at hn
    rw [List.lookup_cons]
    rcases List.mem_cons.mp h with e | h
    · cases e; simp
    · have : (x == k) = false := by
        cases e : x == k with
        | false => rfl
        | true => exact absurd (List.mem_map.mpr ⟨(x, c), h, by simpa using beq_iff_eq.mp e⟩) hn.1
      rw [this]; exact ih hn.2 h

noncomputable def compEnvX (scope : Scope) (C : Addr) (env : Env) : Env :=
  { scope := relabel scope env, locals := C, globals := env.globals, cells := cellsFrom (C + 1) scope.names (clFrom env scope.names []), qual := env.qual, func := none, code := env.code, frame := env.frame, builtins := env.builtins }

theorem newCompEnv {M : Model} {A : Around} {E : Value → Shared → Prop} {s : Shared} {scope : Scope} {env : Env} {cl : List (Str × Addr)} {Q : Env → Shared → Prop}
    (h : Q { scope := scope, locals := s.heap.objs.size, globals := env.globals, cells := cellsFrom (s.heap.objs.size + 1) scope.names cl, qual := env.qual, func := none, code := env.code, frame := env.frame, builtins := env.builtins }
      { s with heap := pushCells (s.heap.push { cls := .type "dict", data := .dict #[] }) scope.names }) :
    wpAny M A (newFunctionEnv scope env.globals cl [] env.qual none .none (some env)) Q E s := by
  simp only [newFunctionEnv, Option.isSome_some, if_true]
  refine wpAny_bind (wpAny_alloc ?_)
  refine wpAny_bind (wpAny_layCells _ (fun name kind cells => by cases kind == NameKind.cell <;> simp) _ _ _ _ ?_)
  rw [show ({ s with heap := s.heap.push { cls := .type "dict", data := .dict #[] } } : Shared).heap.objs.size = s.heap.objs.size + 1 from Heap.size_push ..]
  rw [List.forIn_nil]
  exact wpAny_bind (wpAny_pure (wpAny_pure h))

noncomputable def scIn (sc : Sc) (scope : Scope) (B : Heap) : Sc :=
  ⟨fun x => scope.names.lookup x, (sc.nm.map fun o => o.bind fun x => if scope.names.lookup x == some .free then some x else none) ++ (ownL scope).map (some ·.1), B⟩

structure CompSc (sc : Sc) (scope : Scope) : Prop where
  fn : scope.kind = .function
  nd : (scope.names.map (·.1)).Nodup
  fr : ∀ x, (x, NameKind.free) ∈ scope.names → sc.kind x = some .cell ∨ sc.kind x = some .free

theorem lookup_relabel {env : Env} {names : List (Str × NameKind)} {x : Str} {k : NameKind} (h : names.lookup x = some k) :
    (names.map fun (n, k) => if (k == NameKind.free && env.scope.kind == .function && env.kindOf n == some .cell) then (n, NameKind.cell) else (n, k)).lookup x = some k ∨
    (k = .free ∧ (names.map fun (n, k) => if (k == NameKind.free && env.scope.kind == .function && env.kindOf n == some .cell) then (n, NameKind.cell) else (n, k)).lookup x = some .cell) := by
  induction names with
  | nil => cases h
  | cons p r ih =>
    obtain ⟨m, k'⟩ := p
    rw [List.lookup_cons] at h
    rw [List.map_cons]
    dsimp only
    cases hx : x == m with
    | true =>
      rw [hx] at h; cases h
      split
      · rename_i hc
        rw [List.lookup_cons, hx]
        simp only [Bool.and_eq_true, beq_iff_eq] at hc
        exact .inr ⟨hc.1.1, rfl⟩
      · rw [List.lookup_cons, hx]; exact .inl rfl
    | false =>
      rw [hx] at h
      split <;> (rw [List.lookup_cons, hx]; exact ih h)

section
variable {cx : Cx} {n : Nat} {sc : Sc} {F F' F₁ F₂ : List (Option V)} {G G' G₁ G₂ : List O} {B B' : Heap} {ρ ρ' : List Addr} {env : Env} {oa oa' : List (Option Addr)} {s₀ s s' : Shared} {ρ₀ : List Addr} {ex : List Addr}

theorem inner_get {own i : Nat} {v : V} (h : (inner F own)[i]? = some (some v)) : ∃ v₀, F[i]? = some (some v₀) ∧ v = ro v₀ := by
  unfold inner at h
  rw [List.getElem?_append] at h
  split at h
  · rw [List.getElem?_map, Option.map_eq_some_iff] at h
    obtain ⟨o, h1, h2⟩ := h
    cases o with
    | none => cases h2
    | some v₀ => cases h2; exact ⟨v₀, h1, rfl⟩
  · rw [List.getElem?_replicate] at h
    split at h <;> cases h

theorem nmIn_inj {scope : Scope} (k : CompSc sc scope) (h : ∀ (i j : Nat) (x : Str), sc.nm[i]? = some (some x) → sc.nm[j]? = some (some x) → i = j) :
    ∀ (i j : Nat) (x : Str), (scIn sc scope B).nm[i]? = some (some x) → (scIn sc scope B).nm[j]? = some (some x) → i = j := by
  have low : ∀ (i : Nat) (x : Str), (scIn sc scope B).nm[i]? = some (some x) → (i < sc.nm.length ∧ sc.nm[i]? = some (some x) ∧ scope.names.lookup x = some .free) ∨
      (sc.nm.length ≤ i ∧ ((ownL scope).map (·.1))[i - sc.nm.length]? = some x ∧ (scope.names.lookup x = some .local ∨ scope.names.lookup x = some .cell)) := by
    intro i x hi
    have hi : ((sc.nm.map fun o => o.bind fun x => if scope.names.lookup x == some .free then some x else none) ++ (ownL scope).map (some ·.1))[i]? = some (some x) := hi
    by_cases hlt : i < sc.nm.length
    · left
      rw [List.getElem?_append_left (by simpa using hlt), List.getElem?_map, Option.map_eq_some_iff] at hi
      obtain ⟨o, ho, hb⟩ := hi
      cases o with
      | none => cases hb
      | some y =>
        simp only [Option.bind_some] at hb
        split at hb
        · rename_i hl; cases hb; exact ⟨hlt, ho, by simpa using hl⟩
        · cases hb
    · right
      rw [List.getElem?_append_right (by simpa using hlt), List.getElem?_map, Option.map_eq_some_iff] at hi
      obtain ⟨p, hp, hb⟩ := hi
      rw [List.length_map] at hp
      cases hb
      refine ⟨by lia, by rw [List.getElem?_map, hp]; rfl, ?_⟩
      have hm := List.mem_of_getElem? hp
      unfold ownL at hm
      obtain ⟨h1, h2⟩ := List.mem_filter.mp hm
      obtain ⟨x, kk⟩ := p
      simp only [Bool.and_eq_true, Bool.or_eq_true, beq_iff_eq] at h2
      rw [lookup_of_mem_nodup k.nd h1]
      rcases h2.1 with e | e
      · exact .inl (by rw [e])
      · exact .inr (by rw [e])
  intro i j x hi hj
  rcases low i x hi with ⟨a1, a2, a3⟩ | ⟨a1, a2, a3⟩ <;> rcases low j x hj with ⟨b1, b2, b3⟩ | ⟨b1, b2, b3⟩
  · exact h i j x a2 b2
  · rw [a3] at b3; rcases b3 with e | e <;> cases e
  · rw [b3] at a3; rcases a3 with e | e <;> cases e
  · have nd : ((ownL scope).map (·.1)).Nodup := (List.filter_sublist.map _).nodup k.nd
    have := (List.getElem?_inj (List.getElem?_eq_some_iff.mp a2).1 nd).mp (a2.trans b2.symm)
    lia

theorem hasCell_free (R : Rel cx sc env s₀ ρ₀ F G B ρ oa s) {scope : Scope} (k : CompSc sc scope) : ∀ x ∈ scope.names, x.2 = .free → (env.cells.lookup x.1).isSome := fun ⟨x, kk⟩ hx hk => by
  cases hk; exact R.e.hasC x (k.fr x hx)

theorem comp_enter (R : Rel cx sc env s₀ ρ₀ F G B ρ oa s) {scope : Scope} (k : CompSc sc scope) (hF : F.length = sc.nm.length) {h1 : Heap} (hk1 : ∀ b o, s.heap.get? b = some o → h1.get? b = some o) {tk : Nat} {own : Nat} :
    Rel cx (scIn sc scope B) (compEnvX scope h1.objs.size env) s ρ (inner F own) G B ρ oa { s with heap := pushCells (h1.push { cls := .type "dict", data := .dict #[] }) scope.names, toks := tk } := by
  generalize hH : pushCells (h1.push { cls := .type "dict", data := .dict #[] }) scope.names = H
  have hfree := hasCell_free R k
  have up1 : ∀ b o, h1.get? b = some o → H.get? b = some o := fun b o e => hH ▸ pushCells_keeps _ _ b o (Heap.get?_push_of_some _ e)
  have up : ∀ b o, s.heap.get? b = some o → H.get? b = some o := fun b o e => up1 b o (hk1 b o e)
  have ok := cellsFrom_ok scope.names (h1.push { cls := .type "dict", data := .dict #[] }) (h1.objs.size + 1) [] ⟨fun _ _ hm => (nomatch hm), List.Pairwise.nil⟩ (by rw [Heap.size_push]; exact Nat.le_refl _)
  rw [Heap.size_push, hH] at ok
  have hcells : (compEnvX scope h1.objs.size env).cells = cellsFrom (h1.objs.size + 1) scope.names [] ++ clFrom env scope.names [] := by
    show cellsFrom _ _ _ = _
    rw [← cellsFrom_append]; rfl
  -- the two sorts of cells
  have sort : ∀ x c, (compEnvX scope h1.objs.size env).cells.lookup x = some c → ((x, c) ∈ cellsFrom (h1.objs.size + 1) scope.names [] ∧ (x, .cell) ∈ scope.names) ∨ ((x, .free) ∈ scope.names ∧ env.cells.lookup x = some c) := by
    intro x c h
    rw [hcells, lookup_append'] at h
    cases e : (cellsFrom (h1.objs.size + 1) scope.names []).lookup x with
    | some c' =>
      rw [e] at h; cases h
      have m := mem_of_lookup e
      rcases cellsFrom_mem m with q | q
      · cases q
      · exact .inl ⟨m, q⟩
    | none =>
      rw [e] at h
      rcases clFrom_mem hfree (mem_of_lookup h) with q | ⟨q1, q2⟩
      · cases q
      · exact .inr ⟨q1, q2⟩
  have fresh : ∀ a, h1.objs.size ≤ a → s.heap.get? a = none ∧ B.get? a = none ∧ cx.base.get? a = none ∧ a ∉ ρ ∧ (∀ i : Nat, oa.getD i none ≠ some a) := fun a ha => by
    have hn := none_of_keep hk1 (get?_big (h := h1) ha)
    have f := R.fresh_apart' hn (R.not_sys hk1 ha)
    exact ⟨hn, f.b, f.base, f.r, f.o⟩
  have olt : ∀ a, (s.heap.get? a).isSome → a < h1.objs.size := fun a h => by
    obtain ⟨o, e⟩ := Option.isSome_iff_exists.mp h; exact Heap.lt_size (hk1 _ _ e)
  have kinds : ∀ x kk, (scIn sc scope B).kind x = some kk → kindOk (compEnvX scope h1.objs.size env) x kk := by
    intro x kk h
    have h : scope.names.lookup x = some kk := h
    rcases lookup_relabel (env := env) h with q | ⟨rfl, q⟩
    · have q : (compEnvX scope h1.objs.size env).kindOf x = some kk := q
      cases kk <;> first | exact q | exact .inr q
    · exact .inl q
  refine { same := ⟨H, tk, rfl⟩, keep := fun b o _ e => up b o e, pre := List.prefix_refl ρ, newR := fun a h => .inl h, nB := fun b _ h _ => h, g := R.g.keep up, e := ?_ }
  refine { fn := k.fn, gl := R.e.gl, bl := R.e.bl, kinds := kinds, ns := ⟨_, hH ▸ (Heap.Ns.new h1 (.type "dict")).keeps (pushCells_keeps _ _)⟩,
           lout := (let f := fresh h1.objs.size (Nat.le_refl _); ⟨f.2.1, f.2.2.1, f.2.2.2.1, f.1⟩), cell := ?_, hasC := ?_, inj := ?_, nmInj := ?_, vars := ?_, own := ?_, ownI := ?_ }
  · intro x c hc
    rcases sort x c hc with ⟨q, q2⟩ | ⟨q1, q2⟩
    · obtain ⟨a1, a2⟩ := ok.empty x c q
      have f := fresh c (Nat.le_of_succ_le a2)
      exact ⟨⟨_, a1⟩, f.2.1, f.2.2.1, f.2.2.2.1, Nat.ne_of_gt a2, fun _ => f.1⟩
    · obtain ⟨⟨v, o, ho, hd⟩, a1, a2, a3, a4, a5⟩ := R.e.cell x c q2
      refine ⟨⟨v, o, up _ _ ho, hd⟩, a1, a2, a3, Nat.ne_of_lt (olt c (by rw [ho]; rfl)), fun hk => ?_⟩
      have hk : scope.names.lookup x = some .cell := hk
      rw [lookup_of_mem_nodup k.nd q1] at hk; cases hk
  · intro x hx
    have hx : scope.names.lookup x = some .cell ∨ scope.names.lookup x = some .free := hx
    rw [hcells]
    refine lookup_some_of_mem ?_
    rcases hx with hx | hx
    · obtain ⟨c, hc⟩ := cellsFrom_has (n := h1.objs.size + 1) (acc := []) (.inl (mem_of_lookup hx)); exact ⟨c, List.mem_append_left _ hc⟩
    · obtain ⟨c, hc⟩ := clFrom_has (env := env) (acc := []) (.inl (mem_of_lookup hx)); exact ⟨c, List.mem_append_right _ hc⟩
  · intro x y c hx hy
    rcases sort x c hx with ⟨q, q2⟩ | ⟨q1, q2⟩ <;> rcases sort y c hy with ⟨r, r2⟩ | ⟨r1, r2⟩
    · exact name_of_addr ok.apart q r
    · have := (ok.empty x c q).2
      obtain ⟨o, ho⟩ := R.cell_some r2
      exact absurd (Nat.lt_of_lt_of_le (olt c (by rw [ho]; rfl)) (Nat.le_of_succ_le this)) (Nat.lt_irrefl _)
    · have := (ok.empty y c r).2
      obtain ⟨o, ho⟩ := R.cell_some q2
      exact absurd (Nat.lt_of_lt_of_le (olt c (by rw [ho]; rfl)) (Nat.le_of_succ_le this)) (Nat.lt_irrefl _)
    · exact R.e.inj x y c q2 r2
  · exact nmIn_inj k R.e.nmInj
  · intro i x v hi hv
    obtain ⟨v₀, h1', rfl⟩ := inner_get hv
    have hlt : i < sc.nm.length := by rw [← hF]; exact (List.getElem?_eq_some_iff.mp h1').1
    have hi : (sc.nm.map fun o => o.bind fun x => if scope.names.lookup x == some .free then some x else none)[i]? = some (some x) := by
      have hi : ((sc.nm.map fun o => o.bind fun x => if scope.names.lookup x == some .free then some x else none) ++ (ownL scope).map (some ·.1))[i]? = some (some x) := hi
      rw [List.getElem?_append_left (by simpa using hlt)] at hi; exact hi
    rw [List.getElem?_map, Option.map_eq_some_iff] at hi
    obtain ⟨o, ho, hb⟩ := hi
    cases o with
    | none => cases hb
    | some y =>
    simp only [Option.bind_some] at hb
    split at hb
    · rename_i hl
      cases hb
      have hl : scope.names.lookup x = some .free := by simpa using hl
      obtain ⟨val, v1, v2⟩ := R.e.vars i x v₀ ho h1'
      refine ⟨val, ?_, ro_rep (v2.mono (Le.refl B) (List.prefix_refl ρ) fun _ _ _ e => up _ _ e)⟩
      have fr := k.fr x (mem_of_lookup hl)
      rcases v1 with ⟨k1, _⟩ | ⟨_, c, hc, o, hoc, hd⟩
      · rcases fr with fr | fr
        · have := R.e.kinds x _ fr; rw [show env.kindOf x = some .cell from this] at k1; cases k1
        · rcases R.e.kinds x _ fr with q | q <;> (rw [q] at k1; cases k1)
      · refine .inr ⟨kinds x .free hl, c, ?_, o, up _ _ hoc, hd⟩
        obtain ⟨c', hc'⟩ := Option.isSome_iff_exists.mp (lookup_some_of_mem (clFrom_has (env := env) (acc := []) (.inl (mem_of_lookup hl))))
        have hnone : (cellsFrom (h1.objs.size + 1) scope.names []).lookup x = none := by
          cases e : (cellsFrom (h1.objs.size + 1) scope.names []).lookup x with
          | none => rfl
          | some c'' =>
            rcases cellsFrom_mem (mem_of_lookup e) with q | q
            · cases q
            · rw [lookup_of_mem_nodup k.nd q] at hl; cases hl
        rw [hcells, lookup_append', hnone, hc']
        rcases clFrom_mem hfree (mem_of_lookup hc') with q | ⟨_, q2⟩
        · cases q
        · rw [hc] at q2; cases q2; rfl
    · cases hb
  · intro i a ha
    obtain ⟨a0, a1, a2, a3, a4, a5, a6⟩ := R.e.own i a ha
    obtain ⟨o, ho⟩ := Option.isSome_iff_exists.mp a0
    refine ⟨by rw [up _ _ ho]; rfl, a1, a2, a3, Nat.ne_of_lt (olt a a0), fun x c hc => ?_, a6⟩
    rcases sort x c hc with ⟨q, _⟩ | ⟨_, q2⟩
    · exact fun e => (fresh c (Nat.le_of_succ_le (ok.empty x c q).2)).2.2.2.2 i (e ▸ ha)
    · exact a5 x c q2
  · intro i v a hv ho
    obtain ⟨v₀, _, rfl⟩ := inner_get hv
    rw [ro_owned] at ho; cases ho
end
end Mine
namespace Mine
open PySem PySem.W PySem.Calls PyProof.Rows

section
variable {cx : Cx} {n : Nat} {sc : Sc} {F F' F₁ F₂ : List (Option V)} {G G' G₁ G₂ : List O} {B B' : Heap} {ρ ρ' : List Addr} {env : Env} {oa oa' : List (Option Addr)} {s₀ s s' : Shared} {ρ₀ : List Addr} {ex : List Addr}

theorem compX_cells (R : Rel cx sc env s₀ ρ₀ F G B ρ oa s) {scope : Scope} (k : CompSc sc scope) {C : Addr} {x : Str} {c : Addr} (h : (compEnvX scope C env).cells.lookup x = some c) : C + 1 ≤ c ∨ env.cells.lookup x = some c := by
  have h : (cellsFrom (C + 1) scope.names (clFrom env scope.names [])).lookup x = some c := h
  have e : cellsFrom (C + 1) scope.names (clFrom env scope.names []) = cellsFrom (C + 1) scope.names [] ++ clFrom env scope.names [] := by rw [← cellsFrom_append]; rfl
  rw [e, lookup_append'] at h
  have key : ∀ (names : List (Str × NameKind)) (m : Nat) (acc : List (Str × Addr)), (∀ p ∈ acc, C + 1 ≤ p.2) → C + 1 ≤ m → ∀ p ∈ cellsFrom m names acc, C + 1 ≤ p.2 := by
    intro names
    induction names with
    | nil => intro m acc ha _ p hp; exact ha p hp
    | cons q r ih =>
      intro m acc ha hm p hp
      obtain ⟨y, kk⟩ := q
      unfold cellsFrom at hp
      split at hp
      · refine ih (m + 1) _ (fun p hp => ?_) (Nat.le_succ_of_le hm) p hp
        rcases List.mem_cons.mp hp with rfl | hp
        · exact hm
        · exact ha p hp
      · exact ih m acc ha hm p hp
  cases e2 : (cellsFrom (C + 1) scope.names []).lookup x with
  | some c' =>
    rw [e2] at h; cases h
    exact .inl (key _ _ [] (fun p hp => by cases hp) (Nat.le_refl _) _ (mem_of_lookup e2))
  | none =>
    rw [e2] at h
    rcases clFrom_mem (hasCell_free R k) (mem_of_lookup h) with q | ⟨_, q2⟩
    · cases q
    · exact .inr q2

/-- what a comprehension has left, its own environment still there -/
inductive CompFin (cx : Cx) (sc : Sc) (env : Env) (s₀ : Shared) (ρ₀ : List Addr) (F₁ : Fr') (G' : List O) (B : Heap) (ρ : List Addr) (oa : List (Option Addr)) (h : Heap) (ys : List PyData) (acc : Value) (C : Addr) (s' : Shared) : Prop
  | mk (B' : Heap) (ρ' : List Addr) (oa' : List (Option Addr)) (D : Addr) (m : Str → Option Value) : acc = .ref D → Rel cx sc env s₀ ρ₀ F₁ G' B' ρ' oa' s' → Gr B ρ oa h B' ρ' oa' s'.heap → ListAt cx B' s'.heap D ys → h.get? D = none → Free cx env B' ρ' oa' D → s₀.heap.get? D = none → s'.heap.Ns C m → Free cx env B' ρ' oa' C → s₀.heap.get? C = none → h.get? C = none → D ≠ C → CompFin cx sc env s₀ ρ₀ F₁ G' B ρ oa h ys acc C s'

theorem Gr.none_of {h h' : Heap} (g : Gr B ρ oa h B' ρ' oa' h') {a : Addr} (hn : h'.get? a = none) (hr : a ∉ ρ') : h.get? a = none := by
  cases e : h.get? a with
  | none => rfl
  | some o => rw [g.keep a o (fun q => hr (pre_mem g.pre q)) e] at hn; cases hn

theorem comp_core {A : Around} (ok : AOk n A) (R : Rel cx sc env s₀ ρ₀ F G B ρ oa s) {elt target iter : Expr} {ifs : List Expr} {more : List Comprehension} {scope : Scope} {pos p : Pos} {tg : Tg} {own : Nat} {v : V} {xs ys : List PyData}
    {stp : PyData → List O → List PyData → List O → Prop} {rest : Addr → Env → Sem Unit} (k : CompSc sc scope) (hF : F₁.length = sc.nm.length)
    (h_it : TE cx n sc iter F G v F₁ G₁) (hx : itemsV v = some xs) (hst : Steps stp xs G₁ ys G') (hz : ys.length ≤ sizeLine)
    (turn_eq : ∀ I D env', compTurn (.ListComp elt (⟨target, iter, ifs, 0⟩ :: more) scope pos) 0 (.ref I) (.ref D) env' = (standAt p >>= fun _ => pyNext (.ref I) >>= fun r => match r with
      | none => pure (.done .next)
      | some v => letOwnedTupleGo target (.ref I) v >>= fun _ => assign target env' v >>= fun _ => rest D env' >>= fun _ => again (.compLoop (.ListComp elt (⟨target, iter, ifs, 0⟩ :: more) scope pos) 0 (.ref I) (.ref D) env')))
    (t : ∀ B, TgIs (scIn sc scope B) target tg) (he : emptyAt (inner F₁ own) tg) (hbT : ∀ x G zs G₂, stp x G zs G₂ → ∃ F', bindT (inner F₁ own) tg x = some F')
    (turn : ∀ B env' s₀ ρ₀ D, TurnOk cx (scIn sc scope B) A env' s₀ ρ₀ (inner F₁ own) tg D (rest D env') stp sizeLine) :
    wpAny (model cx.prog cx.w) A (eval iter env) (fun x s₁ => wpAny (model cx.prog cx.w) A (pyIter x) (fun it s₂ => wpAny (model cx.prog cx.w) A (newList []) (fun acc s₃ =>
      wpAny (model cx.prog cx.w) A (newFunctionEnv scope env.globals (clFrom env scope.names []) [] env.qual none .none (some env)) (fun cenv s₄ =>
        codeAny (model cx.prog cx.w) A (.compStart (.ListComp elt (⟨target, iter, ifs, 0⟩ :: more) scope pos) 0 it acc { cenv with scope := relabel scope env })
          (fun r s' => r = .ok .next ∧ CompFin cx sc env s₀ ρ₀ F₁ G' B ρ oa s.heap ys acc cenv.locals s') s₄) (fun _ _ => False) s₃) (fun _ _ => False) s₂) (fun _ _ => False) s₁) (fun _ _ => False) s := by
  refine wpAny_mono (h_it A env s₀ ρ₀ B ρ oa s ok R) (fun x s₁ q => ?_) fun _ _ x => x
  obtain ⟨B₁, ρ₁, oa₁, R₁, g₁, r₁⟩ := q
  refine iter_any ok.hh R₁ r₁ hx fun o hI hfz => ?_
  obtain ⟨fp, P, St, it, hSt⟩ := hI
  refine wpAny_newObj_type ?_ (Nat.zero_le _)
  refine newCompEnv ?_
  dsimp only
  generalize hh1 : (s₁.heap.push o).push { cls := .type "list", data := .seq ([] : List Value).toArray } = h1
  have hk1 : ∀ b o, s₁.heap.get? b = some o → h1.get? b = some o := fun b o e => hh1 ▸ Heap.get?_push_of_some _ (Heap.get?_push_of_some _ e)
  have hC : h1.objs.size = s₁.heap.objs.size + 2 := by rw [← hh1, Heap.size_push, Heap.size_push]
  have hD : (s₁.heap.push o).objs.size = s₁.heap.objs.size + 1 := Heap.size_push ..
  rw [hD]
  generalize hI : s₁.heap.objs.size = I at *
  have upX : ∀ b o, h1.get? b = some o → (pushCells (h1.push { cls := .type "dict", data := .dict #[] }) scope.names).get? b = some o := fun b o e => pushCells_keeps _ _ b o (Heap.get?_push_of_some _ e)
  have RI := comp_enter (tk := s₁.toks) (own := own) R₁ k hF hk1
  have nI := get?_big (h := s₁.heap) (Nat.le_of_eq hI)
  have nD := get?_big (h := s₁.heap) (a := I + 1) (by rw [hI]; exact Nat.le_succ _)
  have nC := get?_big (h := s₁.heap) (a := h1.objs.size) (by rw [hI, hC]; exact Nat.le_add_right _ _)
  have fI := R₁.fresh_apart' nI (R₁.not_sys (fun _ _ e => e) (Nat.le_of_eq hI))
  have fD := R₁.fresh_apart' nD (R₁.not_sys (fun _ _ e => e) (by rw [hI]; exact Nat.le_succ _))
  have fC := R₁.fresh_apart' nC (R₁.not_sys (fun _ _ e => e) (by rw [hI, hC]; exact Nat.le_add_right _ _))
  have lt1 : I < h1.objs.size := by rw [hC]; exact Nat.lt_of_lt_of_le (Nat.lt_succ_self _) (Nat.le_succ _)
  have lt2 : I + 1 < h1.objs.size := by rw [hC]; exact Nat.lt_succ_self _
  have toX : ∀ a, a < h1.objs.size → Free cx env B₁ ρ₁ oa₁ a → Free cx (compEnvX scope h1.objs.size env) B₁ ρ₁ oa₁ a := fun a hl f =>
    ⟨f.b, f.base, f.r, f.o, Nat.ne_of_lt hl, fun x c hc e => by
      rcases compX_cells R₁ k hc with q | q
      · rw [e] at q; exact absurd (Nat.lt_of_lt_of_le hl (Nat.le_of_succ_le q)) (Nat.lt_irrefl _)
      · exact f.c x c q e, f.n⟩
  have hIo : (s₁.heap.push o).get? I = some o := by rw [← hI]; exact Heap.get?_push_size _ hfz
  have hStX : St 0 (pushCells (h1.push { cls := .type "dict", data := .dict #[] }) scope.names) := it.w.frame _ _ _ hSt fun b _ ob e => upX b ob (hh1 ▸ Heap.get?_push_of_some _ e)
  have hDo : (pushCells (h1.push { cls := .type "dict", data := .dict #[] }) scope.names).PlainList (I + 1) #[] := by
    refine ⟨0, upX _ _ ?_⟩
    rw [← hh1, ← hD]; exact Heap.get?_push_size _ rfl
  have loop : codeAny (model cx.prog cx.w) A (.compLoop (.ListComp elt (⟨target, iter, ifs, 0⟩ :: more) scope pos) 0 (.ref I) (.ref (I + 1)) (compEnvX scope h1.objs.size env))
      (fun r s' => r = .ok .next ∧ CompFin cx sc env s₀ ρ₀ F₁ G' B ρ oa s.heap ys (.ref (I + 1)) h1.objs.size s') { s₁ with heap := pushCells (h1.push { cls := .type "dict", data := .dict #[] }) scope.names, toks := s₁.toks } := by
    refine codeAny_mono (comp_loop (Bs := B₁) (m := sizeLine) ok.hh (turn_eq I (I + 1) _) it (t B₁) he (Nat.ne_of_gt (Nat.lt_succ_self I)) nI nD (turn B₁ _ s₁ ρ₁ (I + 1)) hbT xs.length 0 G₁ G' [] ys B₁ ρ₁ oa₁ _ #[] (by lia) (by simpa using hst) (by simpa using hz)
      RI (Le.refl _) hStX hDo .nil (toX _ lt2 fD) (toX _ lt1 fI)) fun r s' q => ?_
    obtain ⟨rfl, B', ρ', oa', acc', R', g, hD', hacc'⟩ := q
    obtain ⟨R2, g2⟩ := R₁.called R'.g (c := ⟨R'.same, g.le, R'.pre, R'.newR, R'.nB, R'.keep⟩)
    obtain ⟨m, hns⟩ := R'.e.ns
    have lo := R'.e.lout
    obtain ⟨dd, hDo'⟩ := id hD'
    have fD' := (toX _ lt2 fD).laterL g (by obtain ⟨_, e⟩ := hDo; rw [e]; rfl)
    have g3 := g₁.trans g2
    refine ⟨rfl, B', ρ', oa₁, I + 1, m, rfl, R2, g3, ⟨acc', hD', by simpa using hacc'⟩, g₁.none_of nD fD.r, ⟨fD'.b, fD.base, fD'.r, fD.o, fD.l, fD.c, fD.n⟩, R₁.before fD.r nD, hns,
      ⟨lo.1, lo.2.1, lo.2.2.1, fC.o, fC.l, fC.c, fC.n⟩, R₁.before fC.r nC, g₁.none_of nC fC.r, Nat.ne_of_lt lt2⟩
  exact codeAny_compStart_list loop (it.w.self 0 _ _ _ hStX loop)

/-- a comprehension as an expression: a new list -/
theorem TO_comp_of {elt target iter : Expr} {ifs : List Expr} {more : List Comprehension} {scope : Scope} {pos : Pos} {ys : List PyData} (k : CompSc sc scope) (hs : plainE iter = true)
    (core : ∀ {A : Around} {env s₀ ρ₀ B ρ oa s}, AOk n A → Rel cx sc env s₀ ρ₀ F G B ρ oa s → wpAny (model cx.prog cx.w) A (eval iter env) (fun x s₁ => wpAny (model cx.prog cx.w) A (pyIter x) (fun it s₂ => wpAny (model cx.prog cx.w) A (newList []) (fun acc s₃ =>
      wpAny (model cx.prog cx.w) A (newFunctionEnv scope env.globals (clFrom env scope.names []) [] env.qual none .none (some env)) (fun cenv s₄ =>
        codeAny (model cx.prog cx.w) A (.compStart (.ListComp elt (⟨target, iter, ifs, 0⟩ :: more) scope pos) 0 it acc { cenv with scope := relabel scope env })
          (fun r s' => r = .ok .next ∧ CompFin cx sc env s₀ ρ₀ F₁ G' B ρ oa s.heap ys acc cenv.locals s') s₄) (fun _ _ => False) s₃) (fun _ _ => False) s₂) (fun _ _ => False) s₁) (fun _ _ => False) s) :
    TO cx n sc (.ListComp elt (⟨target, iter, ifs, 0⟩ :: more) scope pos) F G (.ol ys) F₁ G' := by
  intro A env s₀ ρ₀ B ρ oa s ok R
  rw [eval_ListComp]
  refine wpAny_comprehension_free (use := none) rfl (fun x => folded_plain hs x) (closureFor_eq (hasCell_free R k)) k.fn (fun x hx hl => by rw [lookup_of_mem_nodup k.nd (show (x.1, x.2) ∈ scope.names from hx), hl])
    (wpAny_mono (core ok R) (fun x s₁ h₁ => wpAny_mono h₁ (fun it s₂ h₂ => wpAny_mono h₂ (fun acc s₃ h₃ => wpAny_mono h₃ (fun cenv s₄ h₄ => codeAny_mono h₄ fun r s' h => ?_) fun _ _ x => x) fun _ _ x => x) fun _ _ x => x) fun _ _ x => x)
  obtain ⟨rfl, B', ρ', oa', D, m, rfl, R', g, hl, hD, fD, hD0, hns, fC, hC0, hC, hDC⟩ := h
  refine ⟨m, hns, fun h' sb => ?_⟩
  have kk : ∀ b o, b ≠ cenv.locals → s'.heap.get? b = some o → h'.get? b = some o := fun b o hb e => (sb.2 b hb).trans e
  obtain ⟨vs, ⟨d, hd⟩, hr⟩ := hl
  have hd' := kk D _ hDC hd
  exact ⟨B', ρ', oa', D, R'.setFree fC hC0 kk, ⟨g.le, g.pre, g.newR, g.nB, fun b o hr e => kk b o (by first | exact ne_get e (hC) | exact ne_iss e (hC) | exact ne_get (hC) e | (rintro rfl; rw [hC] at e; cases e)) (g.keep b o hr e), g.oaS⟩, ⟨D, rfl, rfl, vs, ⟨d, hd'⟩, hr⟩, rfl, hD, by show (h'.get? D).isSome; rw [hd']; rfl, fD, hD0⟩
end
end Mine
namespace Mine
open PySem PySem.W PySem.Calls PyProof.Rows

noncomputable def emit (elt : Expr) (D : Addr) (env : Env) : Sem Unit := eval elt env >>= fun x => call (.builtin "list.append") [.ref D, x] >>= fun _ => pure ()

theorem compTurn_1 (elt target iter : Expr) (scope : Scope) (pos : Pos) (I D : Addr) (env : Env) :
    compTurn (.ListComp elt [⟨target, iter, [], 0⟩] scope pos) 0 (.ref I) (.ref D) env = (standAt iter.pos >>= fun _ => pyNext (.ref I) >>= fun r => match r with
      | none => pure (.done .next)
      | some v => letOwnedTupleGo target (.ref I) v >>= fun _ => assign target env v >>= fun _ => emit elt D env >>= fun _ =>
          again (.compLoop (.ListComp elt [⟨target, iter, [], 0⟩] scope pos) 0 (.ref I) (.ref D) env)) := compTurn_list1 ..
theorem compTurn_2 (elt target iter c : Expr) (scope : Scope) (pos : Pos) (I D : Addr) (env : Env) :
    compTurn (.ListComp elt [⟨target, iter, [c], 0⟩] scope pos) 0 (.ref I) (.ref D) env = (standAt iter.pos >>= fun _ => pyNext (.ref I) >>= fun r => match r with
      | none => pure (.done .next)
      | some v => letOwnedTupleGo target (.ref I) v >>= fun _ => assign target env v >>= fun _ => (isTrue c env (eval c env) >>= fun ok => if ok = true then emit elt D env else pure ()) >>= fun _ =>
          again (.compLoop (.ListComp elt [⟨target, iter, [c], 0⟩] scope pos) 0 (.ref I) (.ref D) env)) := by
  rw [compTurn_list]
  congr 1; funext _; congr 1; funext r
  cases r with
  | none => rfl
  | some v =>
    dsimp only
    congr 1; funext _; congr 1; funext _
    rw [List.forIn_cons]
    simp only [if_true, bind_assoc, pure_bind, List.forIn_nil]
    congr 1; funext ok
    cases ok with
    | true => simp [emit]
    | false => simp

section
variable {cx : Cx} {n : Nat} {sc : Sc} {F F' F₁ F₂ Fb : List (Option V)} {G G' G₁ G₂ : List O} {B B' : Heap} {ρ ρ' : List Addr} {env : Env} {oa oa' : List (Option Addr)} {s₀ s s' : Shared} {ρ₀ : List Addr} {ex : List Addr}

theorem emit_ok {A : Around} (ok : AOk n A) {elt : Expr} {D : Addr} {y : PyData} {ys : List PyData} {acc : Array Value} (h : TE cx n sc elt F G (.d y) F' G') (R : Rel cx sc env s₀ ρ₀ F G B ρ oa s) (hD : s.heap.PlainList D acc) (hacc : RepAll cx.prog cx.w B acc.toList ys)
    (fD : Free cx env B ρ oa D) (hD0 : s₀.heap.get? D = none) (hm : (ys ++ [y]).length ≤ sizeLine) :
    wpAny (model cx.prog cx.w) A (emit elt D env) (fun _ s' => ∃ B' ρ' oa' acc', Rel cx sc env s₀ ρ₀ F' G' B' ρ' oa' s' ∧ Lg [D] env B ρ oa s.heap B' ρ' oa' s'.heap ∧ s'.heap.PlainList D acc' ∧ RepAll cx.prog cx.w B' acc'.toList (ys ++ [y])) (fun _ _ => False) s := by
  unfold emit
  refine wpAny_bind (wpAny_mono (h A env s₀ ρ₀ B ρ oa s ok R) (fun val s₁ q => ?_) fun _ _ x => x)
  obtain ⟨B₁, ρ₁, oa₁, R₁, g₁, r₁⟩ := q
  obtain ⟨d, hDo⟩ := id hD
  have hD1 := g₁.keep D _ fD.r hDo
  have fD1 := fD.later g₁ (by rw [hDo]; rfl)
  have e := hacc.length
  simp only [Array.length_toList] at e
  refine wpAny_bind (wpAny_list_append_plain ⟨d, hD1⟩ (fun h' hl sb => wpAny_pure ?_) (by rw [e]; simp at hm; lia))
  have kk : ∀ b o, b ≠ D → s₁.heap.get? b = some o → h'.get? b = some o := fun b o hb e => (sb.2 b hb).trans e
  refine ⟨B₁, ρ₁, oa₁, _, R₁.setFree fD1 hD0 kk, ⟨g₁.le, g₁.pre, g₁.newR, g₁.nB, fun b o h1 _ _ h4 e => kk b o (by simpa using h4) (g₁.keep b o h1 e), g₁.oaS⟩, hl, ?_⟩
  rw [Array.toList_push]
  exact (hacc.mono g₁.le).snoc r₁

theorem turn1 {A : Around} (ok : AOk n A) {elt : Expr} {tg : Tg} {D : Addr} {stp : PyData → List O → List PyData → List O → Prop}
    (h : ∀ x zs G G₁ F', stp x G zs G₁ → bindT Fb tg x = some F' → ∃ y F'', zs = [y] ∧ TE cx n sc elt F' G (.d y) F'' G₁ ∧ below Fb F'') : TurnOk cx sc A env s₀ ρ₀ Fb tg D (emit elt D env) stp sizeLine := by
  intro x zs G G₁ F' B ρ oa s acc ys hs hb R hD hacc fD hD0 hm
  obtain ⟨y, F'', rfl, hT, hbl⟩ := h x zs G G₁ F' hs hb
  refine wpAny_mono (emit_ok ok hT R hD hacc fD hD0 hm) (fun _ s' q => ?_) fun _ _ x => x
  obtain ⟨B', ρ', oa', acc', R', g, a, b⟩ := q
  exact ⟨B', ρ', oa', acc', F'', R', hbl, g, a, b⟩

theorem turn2 {A : Around} (ok : AOk n A) {elt c : Expr} {tg : Tg} {D : Addr} {stp : PyData → List O → List PyData → List O → Prop}
    (h : ∀ x zs G G₁ F', stp x G zs G₁ → bindT Fb tg x = some F' → ∃ b F₂ G₂, TB cx n sc c F' G b F₂ G₂ ∧ if b then (∃ y F'', zs = [y] ∧ TE cx n sc elt F₂ G₂ (.d y) F'' G₁ ∧ below Fb F'') else (zs = [] ∧ G₁ = G₂ ∧ below Fb F₂)) :
    TurnOk cx sc A env s₀ ρ₀ Fb tg D (isTrue c env (eval c env) >>= fun ok => if ok = true then emit elt D env else pure ()) stp sizeLine := by
  intro x zs G G₁ F' B ρ oa s acc ys hs hb R hD hacc fD hD0 hm
  obtain ⟨b, F₂, G₂, hT, hr⟩ := h x zs G G₁ F' hs hb
  refine wpAny_bind (wpAny_mono (hT A env s₀ ρ₀ B ρ oa s ok R) (fun z s₁ q => ?_) fun _ _ x => x)
  obtain ⟨B₁, ρ₁, oa₁, R₁, g₁, r₁⟩ := q
  have r₁ : Rep cx.prog cx.w B₁ (.bool z) (.bool b) := r₁
  cases r₁
  obtain ⟨d, hDo⟩ := id hD
  have hD1 := g₁.keep D _ fD.r hDo
  have fD1 := fD.later g₁ (by rw [hDo]; rfl)
  cases b with
  | true =>
    obtain ⟨y, F'', rfl, hT2, hbl⟩ := hr
    refine wpAny_mono (emit_ok ok hT2 R₁ ⟨d, hD1⟩ (hacc.mono g₁.le) fD1 hD0 hm) (fun _ s' q => ?_) fun _ _ x => x
    obtain ⟨B', ρ', oa', acc', R', g, a, b⟩ := q
    have al : ∀ b, (s.heap.get? b).isSome → b ∉ ρ → (s₁.heap.get? b).isSome := fun b hb hr => by obtain ⟨o, e⟩ := Option.isSome_iff_exists.mp hb; rw [g₁.keep b o hr e]; rfl
    exact ⟨B', ρ', oa', acc', F'', R', hbl, (g₁.lg (ex := [D])).trans g al, a, b⟩
  | false =>
    obtain ⟨rfl, rfl, hbl⟩ := hr
    exact wpAny_pure ⟨B₁, ρ₁, oa₁, acc, F₂, R₁, hbl, g₁.lg, ⟨d, hD1⟩, by simpa using hacc.mono g₁.le⟩
end
end Mine
namespace Mine
open PySem PySem.W PySem.Calls PyProof.Rows

noncomputable def FlIs (cx : Cx) (B : Heap) (ρ : List Addr) : Fl → Flow → Prop
  | .next, f => f = .next
  | .cont, f => f = .cont
  | .ret v, f => ∃ val, f = .ret val ∧ RepV cx B ρ val v

/-- nobody's objects stay -/
noncomputable def Frees (cx : Cx) (env : Env) (s₀ : Heap) (B : Heap) (ρ : List Addr) (oa : List (Option Addr)) (h : Heap) (B' : Heap) (ρ' : List Addr) (oa' : List (Option Addr)) (h' : Heap) : Prop :=
  ∀ d ob, Free cx env B ρ oa d → s₀.get? d = none → h.get? d = some ob → h'.get? d = some ob ∧ Free cx env B' ρ' oa' d

inductive PostS (cx : Cx) (sc : Sc) (env : Env) (s₀ : Shared) (ρ₀ : List Addr) (F' : Fr') (G' : List O) (B : Heap) (ρ : List Addr) (oa : List (Option Addr)) (h : Heap) (fl : Fl) (f : Flow) (s' : Shared) : Prop
  | mk (B' : Heap) (ρ' : List Addr) (oa' : List (Option Addr)) : Rel cx sc env s₀ ρ₀ F' G' B' ρ' oa' s' → Le B B' → ρ <+: ρ' → FlIs cx B' ρ' fl f → Frees cx env s₀.heap B ρ oa h B' ρ' oa' s'.heap → PostS cx sc env s₀ ρ₀ F' G' B ρ oa h fl f s'

section
variable (cx : Cx) (n : Nat) (sc : Sc)
noncomputable def TS (st : Stmt) (F : Fr') (G : List O) (fl : Fl) (F' : Fr') (G' : List O) : Prop :=
  ∀ (A : Around) (env : Env) (s₀ : Shared) (ρ₀ : List Addr) (B : Heap) (ρ : List Addr) (oa : List (Option Addr)) (s : Shared),
    AOk n A → Rel cx sc env s₀ ρ₀ F G B ρ oa s → wpAny (model cx.prog cx.w) A (exec st env) (PostS cx sc env s₀ ρ₀ F' G' B ρ oa s.heap fl) (fun _ _ => False) s
noncomputable def TSs (st : List Stmt) (F : Fr') (G : List O) (fl : Fl) (F' : Fr') (G' : List O) : Prop :=
  ∀ (A : Around) (env : Env) (s₀ : Shared) (ρ₀ : List Addr) (B : Heap) (ρ : List Addr) (oa : List (Option Addr)) (s : Shared),
    AOk n A → Rel cx sc env s₀ ρ₀ F G B ρ oa s → wpAny (model cx.prog cx.w) A (execs st env) (PostS cx sc env s₀ ρ₀ F' G' B ρ oa s.heap fl) (fun _ _ => False) s

/-- a value, plain or a new list or dict that is nobody's -/
inductive PostW (cx : Cx) (sc : Sc) (env : Env) (s₀ : Shared) (ρ₀ : List Addr) (F' : Fr') (G' : List O) (B : Heap) (ρ : List Addr) (oa : List (Option Addr)) (h : Heap) (v : V) (val : Value) (s' : Shared) : Prop
  | mk (B' : Heap) (ρ' : List Addr) (oa' : List (Option Addr)) (o : Option Addr) : Rel cx sc env s₀ ρ₀ F' G' B' ρ' oa' s' → Gr B ρ oa h B' ρ' oa' s'.heap → RepX cx B' ρ' s'.heap o val v → ((o = none ∧ v.owned = false) ∨ (∃ a, o = some a ∧ Free cx env B' ρ' oa' a ∧ s₀.heap.get? a = none ∧ (s'.heap.get? a).isSome ∧ h.get? a = none)) → PostW cx sc env s₀ ρ₀ F' G' B ρ oa h v val s'
noncomputable def TW (e : Expr) (F : Fr') (G : List O) (v : V) (F' : Fr') (G' : List O) : Prop :=
  ∀ (A : Around) (env : Env) (s₀ : Shared) (ρ₀ : List Addr) (B : Heap) (ρ : List Addr) (oa : List (Option Addr)) (s : Shared),
    AOk n A → Rel cx sc env s₀ ρ₀ F G B ρ oa s → wpAny (model cx.prog cx.w) A (eval e env) (PostW cx sc env s₀ ρ₀ F' G' B ρ oa s.heap v) (fun _ _ => False) s
end

section
variable {cx : Cx} {n : Nat} {sc : Sc} {F F' F₁ F₂ Fb : List (Option V)} {G G' G₁ G₂ : List O} {B B' B'' : Heap} {ρ ρ' ρ'' : List Addr} {env : Env} {oa oa' oa'' : List (Option Addr)} {s₀ s s' : Shared} {ρ₀ : List Addr} {ex : List Addr} {h h' h'' : Heap}

theorem Frees.refl (k : ∀ b o, h.get? b = some o → h'.get? b = some o) : Frees cx env s₀.heap B ρ oa h B ρ oa h' := fun d ob f _ e => ⟨k d ob e, f⟩
theorem Frees.trans (x : Frees cx env s₀.heap B ρ oa h B' ρ' oa' h') (y : Frees cx env s₀.heap B' ρ' oa' h' B'' ρ'' oa'' h'') : Frees cx env s₀.heap B ρ oa h B'' ρ'' oa'' h'' :=
  fun d ob f e1 e2 => let ⟨a, b⟩ := x d ob f e1 e2; y d ob b e1 a
theorem Gr.frees (g : Gr B ρ oa h B' ρ' oa' h') : Frees cx env s₀.heap B ρ oa h B' ρ' oa' h' := fun d ob f _ e => ⟨g.keep d ob f.r e, f.later g (by rw [e]; rfl)⟩
theorem PostS.after {fl f} (l : Le B B') (p : ρ <+: ρ') (x : Frees cx env s₀.heap B ρ oa h B' ρ' oa' h') (q : PostS cx sc env s₀ ρ₀ F' G' B' ρ' oa' h' fl f s') : PostS cx sc env s₀ ρ₀ F' G' B ρ oa h fl f s' :=
  let ⟨B2, ρ2, oa2, R, l2, p2, fi, y⟩ := q; ⟨B2, ρ2, oa2, R, l.trans l2, p.trans p2, fi, x.trans y⟩

theorem TSs_nil : TSs cx n sc [] F G .next F G := by
  intro A env s₀ ρ₀ B ρ oa s ok R
  exact wpAny_execs_nil ⟨B, ρ, oa, R, Le.refl B, List.prefix_refl ρ, rfl, Frees.refl fun _ _ e => e⟩
theorem TSs_cons {st : Stmt} {r : List Stmt} {fl : Fl} (h₁ : TS cx n sc st F G .next F₁ G₁) (h₂ : TSs cx n sc r F₁ G₁ fl F' G') : TSs cx n sc (st :: r) F G fl F' G' := by
  intro A env s₀ ρ₀ B ρ oa s ok R
  refine wpAny_execs_cons (wpAny_mono (h₁ A env s₀ ρ₀ B ρ oa s ok R) (fun f s₁ q => ?_) fun _ _ x => x)
  obtain ⟨B₁, ρ₁, oa₁, R₁, l, p, rfl, fr⟩ := q
  exact wpAny_mono (h₂ A env s₀ ρ₀ B₁ ρ₁ oa₁ s₁ ok R₁) (fun f s₂ q => PostS.after l p fr q) fun _ _ x => x
theorem TSs_stop {st : Stmt} {r : List Stmt} {fl : Fl} (h₁ : TS cx n sc st F G fl F' G') (h0 : match fl with | .next => False | _ => True) : TSs cx n sc (st :: r) F G fl F' G' := by
  intro A env s₀ ρ₀ B ρ oa s ok R
  refine wpAny_execs_cons (wpAny_mono (h₁ A env s₀ ρ₀ B ρ oa s ok R) (fun f s₁ q => ?_) fun _ _ x => x)
  obtain ⟨B₁, ρ₁, oa₁, R₁, l, p, fi, fr⟩ := id q
  cases fl with
  | next => exact h0.elim
  | cont => cases fi; exact q
  | ret v => obtain ⟨val, rfl, _⟩ := id fi; exact q

theorem TE.tw {e : Expr} {v : V} (h : TE cx n sc e F G v F' G') : TW cx n sc e F G v F' G' := fun A env s₀ ρ₀ B ρ oa s ok R =>
  wpAny_mono (h A env s₀ ρ₀ B ρ oa s ok R) (fun _ _ q => let ⟨B', ρ', oa', R', g, r⟩ := q; ⟨B', ρ', oa', none, R', g, repV_X r, .inl ⟨rfl, repV_owned r⟩⟩) fun _ _ x => x
theorem TO.tw {e : Expr} {v : V} (h : TO cx n sc e F G v F' G') : TW cx n sc e F G v F' G' := fun A env s₀ ρ₀ B ρ oa s ok R =>
  wpAny_mono (h A env s₀ ρ₀ B ρ oa s ok R) (fun _ _ q => let ⟨B', ρ', oa', a, R', g, r, _, h1, h2, h3, h4⟩ := q; ⟨B', ρ', oa', some a, R', g, r, .inr ⟨a, rfl, h3, h4, h2, h1⟩⟩) fun _ _ x => x

/-- a free place stays so when a variable is stored -/
theorem free_store {i : Nat} {o : Option Addr} {d : Addr} (f : Free cx env B ρ oa d) (h : o ≠ some d) : Free cx env B ρ (setA oa i o) d :=
  ⟨f.b, f.base, f.r, fun j e => by rw [getD_setA] at e; split at e; exact h e; exact f.o j e, f.l, f.c, f.n⟩

theorem store_post {M : Model} {A : Around} {E : Value → Shared → Prop} {i : Nat} {x : Str} {val : Value} {v : V} (hn : sc.nm[i]? = some (some x)) (hk : canSt sc x) (q : PostW cx sc env s₀ ρ₀ F G B ρ oa h v val s) {Q : Unit → Shared → Prop}
    (k : ∀ s', PostS cx sc env s₀ ρ₀ (setF F i (some v)) G B ρ oa h .next .next s' → Q () s') : wpAny M A (storeName env x val) Q E s := by
  obtain ⟨B', ρ', oa', o, R, g, r, ho⟩ := q
  refine store_rel R hn hk r (ho.imp id fun ⟨a, e, f, h0, h1, _⟩ => ⟨a, e, f, h0, h1⟩) fun s' R' ke => k s' ⟨B', ρ', _, R', g.le, g.pre, rfl, fun d ob f h0 hd => ?_⟩
  have f' := f.later g (by rw [hd]; rfl)
  refine ⟨ke d ob f'.l f'.c (g.keep d ob f.r hd), free_store f' fun e => ?_⟩
  rcases ho with ⟨e2, _⟩ | ⟨a, e2, _, _, _, h3⟩
  · rw [e2] at e; cases e
  · rw [e2] at e; cases e; rw [h3] at hd; cases hd

theorem swaps_no {value : Expr} (h : isComp value = false) (t : Option Expr) (line : Nat) (env : Env) : swapsWith value t line env = pure false := by
  cases value <;> first | rfl | cases h

theorem S_asg {x : Str} {px pos : Pos} {e : Expr} {i : Nat} {v : V} (hn : sc.nm[i]? = some (some x)) (hk : canSt sc x) (hc : isComp e = false) (h : TW cx n sc e F G v F' G') : TS cx n sc (.Assign [.Name x px] e pos) F G .next (setF F' i (some v)) G' := by
  intro A env s₀ ρ₀ B ρ oa s ok R
  exact wpAny_Assign_Name (wpAny_mono (h A env s₀ ρ₀ B ρ oa s ok R) (fun val s₁ q => store_post hn hk q fun s' p => p) fun _ _ x => x) (swaps_no hc _ _ _)

/-- a comprehension's value is stored -/
theorem S_asgComp {x : Str} {px spos : Pos} {i : Nat} {elt target iter : Expr} {ifs : List Expr} {more : List Comprehension} {scope : Scope} {pos : Pos} {ys : List PyData} {own : Bool} (hn : sc.nm[i]? = some (some x)) (hk : canSt sc x)
    (k : CompSc sc scope) (hs : plainE iter = true)
    (core : ∀ {A : Around} {env s₀ ρ₀ B ρ oa s}, AOk n A → Rel cx sc env s₀ ρ₀ F G B ρ oa s → wpAny (model cx.prog cx.w) A (eval iter env) (fun x s₁ => wpAny (model cx.prog cx.w) A (pyIter x) (fun it s₂ => wpAny (model cx.prog cx.w) A (newList []) (fun acc s₃ =>
      wpAny (model cx.prog cx.w) A (newFunctionEnv scope env.globals (clFrom env scope.names []) [] env.qual none .none (some env)) (fun cenv s₄ =>
        codeAny (model cx.prog cx.w) A (.compStart (.ListComp elt (⟨target, iter, ifs, 0⟩ :: more) scope pos) 0 it acc { cenv with scope := relabel scope env })
          (fun r s' => r = .ok .next ∧ CompFin cx sc env s₀ ρ₀ F₁ G' B ρ oa s.heap ys acc cenv.locals s') s₄) (fun _ _ => False) s₃) (fun _ _ => False) s₂) (fun _ _ => False) s₁) (fun _ _ => False) s) :
    TS cx n sc (.Assign [.Name x px] (.ListComp elt (⟨target, iter, ifs, 0⟩ :: more) scope pos) spos) F G .next (setF F₁ i (some (if own then .ol ys else .d (.list ys)))) G' := by
  have to := TO_comp_of (F := F) (G := G) (F₁ := F₁) (G' := G') (elt := elt) (target := target) (ifs := ifs) (more := more) (pos := pos) k hs core
  have tw : TW cx n sc (.ListComp elt (⟨target, iter, ifs, 0⟩ :: more) scope pos) F G (if own then .ol ys else .d (.list ys)) F₁ G' := by
    cases own with
    | true => exact to.tw
    | false => exact (to.te rfl).tw
  intro A env s₀ ρ₀ B ρ oa s ok R
  obtain ⟨b, hb⟩ : ∃ b, swapsWith (.ListComp elt (⟨target, iter, ifs, 0⟩ :: more) scope pos) (some (.Name x px)) spos.line env = pure b := ⟨_, rfl⟩
  cases b with
  | false => exact wpAny_Assign_Name (wpAny_mono (tw A env s₀ ρ₀ B ρ oa s ok R) (fun val s₁ q => store_post hn hk q fun s' p => p) fun _ _ x => x) hb
  | true =>
    rw [exec_Assign_Name_used _ _ _ _ hb]
    refine wpAny_bind (wpAny_standAt (wpAny_bind ?_))
    show wpAny _ A (do let _ ← comprehension (.ListComp elt (⟨target, iter, ifs, 0⟩ :: more) scope pos) scope env _ (newList []) false (eval iter env) (some (assign (.Name x px) env))) _ _ s
    refine wpAny_bind (wpAny_mono (wpAny_comprehension_free (use := some (assign (.Name x px) env)) (Q := fun _ s' => PostS cx sc env s₀ ρ₀ (setF F₁ i (some (if own then .ol ys else .d (.list ys)))) G' B ρ oa s.heap .next .next s') rfl
      (fun z => folded_plain hs z) (closureFor_eq (hasCell_free R k)) k.fn (fun z hx hl => by rw [lookup_of_mem_nodup k.nd (show (z.1, z.2) ∈ scope.names from hx), hl])
      (wpAny_mono (core ok R) (fun xv s₁ h₁ => wpAny_mono h₁ (fun it s₂ h₂ => wpAny_mono h₂ (fun acc s₃ h₃ => wpAny_mono h₃ (fun cenv s₄ h₄ => codeAny_mono h₄ fun r s' h => ?_) fun _ _ x => x) fun _ _ x => x) fun _ _ x => x) fun _ _ x => x))
      (fun _ s' hq => wpAny_pure (wpAny_pure hq)) fun _ _ e => e)
    obtain ⟨rfl, B', ρ', oa', D, m, rfl, R', g, hl, hD, fD, hD0, hns, fC, hC0, hC, hDC⟩ := h
    show wpAny _ A (assign (.Name x px) env (.ref D)) _ _ s'
    obtain ⟨vs, ⟨d, hd⟩, hr⟩ := id hl
    obtain ⟨oC, _, _, hCo, _⟩ := id hns
    have pO : PostO cx sc env s₀ ρ₀ F₁ G' B ρ oa s.heap (.ol ys) (.ref D) s' := ⟨B', ρ', oa', D, R', g, ⟨D, rfl, rfl, hl⟩, rfl, hD, by rw [hd]; rfl, fD, hD0⟩
    have key : ∃ B₂ o, Rel cx sc env s₀ ρ₀ F₁ G' B₂ ρ' oa' s' ∧ Gr B ρ oa s.heap B₂ ρ' oa' s'.heap ∧ RepX cx B₂ ρ' s'.heap o (.ref D) (if own then .ol ys else .d (.list ys)) ∧ Free cx env B₂ ρ' oa' cenv.locals ∧
        ((o = none ∧ (if own then V.ol ys else .d (.list ys)).owned = false) ∨ (∃ a, o = some a ∧ Free cx env B₂ ρ' oa' a ∧ s₀.heap.get? a = none ∧ (s'.heap.get? a).isSome ∧ s.heap.get? a = none)) ∧ o ≠ some cenv.locals := by
      cases own with
      | true => exact ⟨B', some D, R', g, ⟨D, rfl, rfl, hl⟩, fC, .inr ⟨D, rfl, fD, hD0, by rw [hd]; rfl, hD⟩, fun e => hDC (Option.some.inj e)⟩
      | false =>
        obtain ⟨B₂, l, e, dd, R2⟩ := R'.freeze hd fD.r fD.l fD.c fD.o fD.n hD0
        refine ⟨B₂, none, R2, ⟨g.le.trans l, g.pre, g.newR, fun b hr hb hs ho => ?_, g.keep, g.oaS⟩, rep_of_list l hl hd e, ⟨by rw [dd _ (Ne.symm hDC)]; exact fC.b, fC.base, fC.r, fC.o, fC.l, fC.c, fC.n⟩, .inl ⟨rfl, rfl⟩, fun e => by cases e⟩
        rw [dd b (by first | exact ne_get hs (hD) | exact ne_iss hs (hD) | exact ne_get (hD) hs | (rintro rfl; rw [hD] at hs; cases hs))]; exact g.nB b hr hb hs ho
    obtain ⟨B₂, o, R2, g2, r2, fC2, ho, hoC⟩ := key
    refine assign_Name (store_rel R2 hn hk r2 (ho.imp id fun ⟨a, e, f, h0, h1, _⟩ => ⟨a, e, f, h0, h1⟩) fun s₂ R3 ke => ⟨m, hns.at' fun o e => ke _ o fC2.l fC2.c e, fun h'' sb => ?_⟩)
    have kk : ∀ b o, b ≠ cenv.locals → s₂.heap.get? b = some o → h''.get? b = some o := fun b o hb e => (sb.2 b hb).trans e
    refine ⟨B₂, ρ', _, R3.setFree (free_store fC2 hoC) hC0 kk, g2.le, g2.pre, rfl, fun d ob f h0 hd => ?_⟩
    have f' := f.later g2 (by rw [hd]; rfl)
    refine ⟨kk d ob (by first | exact ne_get hd (hC) | exact ne_iss hd (hC) | exact ne_get (hC) hd | (rintro rfl; rw [hC] at hd; cases hd)) (ke d ob f'.l f'.c (g2.keep d ob f.r hd)), free_store f' fun e => ?_⟩
    rcases ho with ⟨e2, _⟩ | ⟨a, e2, _, _, _, h3⟩
    · rw [e2] at e; cases e
    · rw [e2] at e; cases e; rw [h3] at hd; cases hd
end
end Mine
namespace Mine
open PySem PySem.W PySem.Calls PyProof.Rows

section
variable {cx : Cx} {n : Nat} {sc : Sc} {F F' F₁ F₂ Fb : List (Option V)} {G G' G₁ G₂ : List O} {B B' B'' : Heap} {ρ ρ' ρ'' : List Addr} {env : Env} {oa oa' oa'' : List (Option Addr)} {s₀ s s' : Shared} {ρ₀ : List Addr} {ex : List Addr} {h h' h'' : Heap}

theorem S_ret {e : Expr} {pos : Pos} {v : V} (h : TE cx n sc e F G v F' G') : TS cx n sc (.Return (some e) pos) F G (.ret v) F' G' := by
  intro A env s₀ ρ₀ B ρ oa s ok R
  refine wpAny_Return_some (wpAny_mono (h A env s₀ ρ₀ B ρ oa s ok R) (fun val s' q => ?_) fun _ _ x => x)
  obtain ⟨B', ρ', oa', R', g, r⟩ := q
  exact ⟨B', ρ', oa', R', g.le, g.pre, ⟨val, rfl, r⟩, g.frees⟩
theorem S_cont {pos : Pos} : TS cx n sc (.Continue pos) F G .cont F G := by
  intro A env s₀ ρ₀ B ρ oa s ok R
  exact wpAny_Continue ⟨B, ρ, oa, R, Le.refl B, List.prefix_refl ρ, rfl, Frees.refl fun _ _ e => e⟩
theorem S_if {c : Expr} {a b : List Stmt} {pos : Pos} {z : Bool} {fl : Fl} (h₁ : TB cx n sc c F G z F₁ G₁) (h₂ : if z then TSs cx n sc a F₁ G₁ fl F' G' else TSs cx n sc b F₁ G₁ fl F' G') : TS cx n sc (.If c a b pos) F G fl F' G' := by
  intro A env s₀ ρ₀ B ρ oa s ok R
  refine wpAny_If (wpAny_mono (h₁ A env s₀ ρ₀ B ρ oa s ok R) (fun t s₁ q => ?_) fun _ _ x => x)
  obtain ⟨B₁, ρ₁, oa₁, R₁, g₁, r₁⟩ := q
  have r₁ : Rep cx.prog cx.w B₁ (.bool t) (.bool z) := r₁
  cases r₁
  cases z with
  | true => exact wpAny_mono (h₂ A env s₀ ρ₀ B₁ ρ₁ oa₁ s₁ ok R₁) (fun f s₂ q => PostS.after g₁.le g₁.pre g₁.frees q) fun _ _ x => x
  | false => exact wpAny_mono (h₂ A env s₀ ρ₀ B₁ ρ₁ oa₁ s₁ ok R₁) (fun f s₂ q => PostS.after g₁.le g₁.pre g₁.frees q) fun _ _ x => x

/-- a while's turns -/
inductive WhileR (cx : Cx) (n : Nat) (sc : Sc) (test : Expr) (body : List Stmt) : Fr' → List O → Fl → Fr' → List O → Prop
  | done {F : Fr'} {G : List O} {F' : Fr'} {G' : List O} : TB cx n sc test F G false F' G' → WhileR cx n sc test body F G .next F' G'
  | turn {F : Fr'} {G : List O} {F₁ : Fr'} {G₁ : List O} {F₂ : Fr'} {G₂ : List O} {fl : Fl} {F' : Fr'} {G' : List O} : TB cx n sc test F G true F₁ G₁ → TSs cx n sc body F₁ G₁ .next F₂ G₂ → WhileR cx n sc test body F₂ G₂ fl F' G' → WhileR cx n sc test body F G fl F' G'
theorem while_ok {A : Around} (ok : AOk n A) {test : Expr} {body : List Stmt} {F : Fr'} {G : List O} {fl : Fl} {F' : Fr'} {G' : List O} (h : WhileR cx n sc test body F G fl F' G') :
    ∀ (B : Heap) (ρ : List Addr) (oa : List (Option Addr)) (s : Shared), Rel cx sc env s₀ ρ₀ F G B ρ oa s →
      codeAny (model cx.prog cx.w) A (.whileLoop test body [] env) (fun r s' => ∃ f, r = .ok f ∧ PostS cx sc env s₀ ρ₀ F' G' B ρ oa s.heap fl f s') s := by
  induction h with
  | done hst =>
    intro B ρ oa s R
    refine codeAny_of_tree ?_
    show wpAny _ A ((whileTurn test body [] env).onRaise (fun x => do noteFrame x env; theTreesLotGoes x)) _ _ s
    refine wpAny_noted ?_
    simp only [whileTurn]
    refine wpAny_bind (wpAny_mono (hst A env s₀ ρ₀ B ρ oa s ok R) (fun t s₁ q => ?_) fun _ _ x => x.elim)
    obtain ⟨B₁, ρ₁, oa₁, R₁, g₁, r₁⟩ := q
    have r₁ : Rep cx.prog cx.w B₁ (.bool t) (.bool false) := r₁
    cases r₁
    exact wpAny_bind (wpAny_execs_nil (wpAny_pure ⟨_, rfl, B₁, ρ₁, oa₁, R₁, g₁.le, g₁.pre, rfl, g₁.frees⟩))
  | turn h1 h2 _ ih =>
    intro B ρ oa s R
    refine codeAny_of_tree ?_
    show wpAny _ A ((whileTurn test body [] env).onRaise (fun x => do noteFrame x env; theTreesLotGoes x)) _ _ s
    refine wpAny_noted ?_
    simp only [whileTurn]
    refine wpAny_bind (wpAny_mono (h1 A env s₀ ρ₀ B ρ oa s ok R) (fun t s₁ q => ?_) fun _ _ x => x.elim)
    obtain ⟨B₁, ρ₁, oa₁, R₁, g₁, r₁⟩ := q
    have r₁ : Rep cx.prog cx.w B₁ (.bool t) (.bool true) := r₁
    cases r₁
    refine wpAny_bind (wpAny_mono (h2 A env s₀ ρ₀ B₁ ρ₁ oa₁ s₁ ok R₁) (fun f s₂ q => ?_) fun _ _ x => x.elim)
    obtain ⟨B₂, ρ₂, oa₂, R₂, l, p, rfl, fr⟩ := PostS.after g₁.le g₁.pre g₁.frees q
    exact wpAny_pure ⟨rfl, codeAny_mono (ih B₂ ρ₂ oa₂ s₂ R₂) fun r s' ⟨f', e, q'⟩ => ⟨f', e, PostS.after l p fr q'⟩⟩

theorem S_while {test : Expr} {body : List Stmt} {pos : Pos} {fl : Fl} (h : WhileR cx n sc test body F G fl F' G') : TS cx n sc (.While test body [] pos) F G fl F' G' := by
  intro A env s₀ ρ₀ B ρ oa s ok R
  refine wpAny_While (codeAny_mono (while_ok ok h B ρ oa s R) fun r s' ⟨f, e, q⟩ => ?_)
  subst e; exact q

/-- a for's turns -/
inductive ForR (cx : Cx) (n : Nat) (sc : Sc) (tg : Tg) (body : List Stmt) : List PyData → Fr' → List O → Fl → Fr' → List O → Prop
  | nil {F : Fr'} {G : List O} : ForR cx n sc tg body [] F G .next F G
  | turn {x : PyData} {xs : List PyData} {F : Fr'} {G : List O} {F₁ : Fr'} {fl₁ : Fl} {F₂ : Fr'} {G₂ : List O} {fl : Fl} {F' : Fr'} {G' : List O} : bindT F tg x = some F₁ → TSs cx n sc body F₁ G fl₁ F₂ G₂ → (fl₁ = .next ∨ fl₁ = .cont) → ForR cx n sc tg body xs F₂ G₂ fl F' G' → ForR cx n sc tg body (x :: xs) F G fl F' G'
  | ret {x : PyData} {xs : List PyData} {F : Fr'} {G : List O} {F₁ : Fr'} {v : V} {F' : Fr'} {G' : List O} : bindT F tg x = some F₁ → TSs cx n sc body F₁ G (.ret v) F' G' → ForR cx n sc tg body (x :: xs) F G (.ret v) F' G'
inductive ForP (cx : Cx) (sc : Sc) (env : Env) (s₀ : Shared) (ρ₀ : List Addr) (F' : Fr') (G' : List O) (fl : Fl) (I : Addr) (B : Heap) (ρ : List Addr) (oa : List (Option Addr)) (h : Heap) (r : Result) (s' : Shared) : Prop
  | mk (f : Flow) : r = .ok f → ∀ (B' : Heap) (ρ' : List Addr) (oa' : List (Option Addr)), Rel cx sc env s₀ ρ₀ F' G' B' ρ' oa' s' → Le B B' → ρ <+: ρ' → FlIs cx B' ρ' fl f →
      (∀ d ob, d ≠ I → Free cx env B ρ oa d → s₀.heap.get? d = none → h.get? d = some ob → s'.heap.get? d = some ob ∧ Free cx env B' ρ' oa' d) → ForP cx sc env s₀ ρ₀ F' G' fl I B ρ oa h r s'
theorem for_ok {A : Around} (ok : AOk n A) {target : Expr} {tg : Tg} {body : List Stmt} {xs : List PyData} {fp : List Addr} {P : Nat → Value → Prop} {St : Nat → Heap → Prop} {Bs : Heap} {I : Addr}
    (t : TgIs sc target tg) (it : IterOk cx A Bs I xs fp P St) (hI0 : s₀.heap.get? I = none) :
    ∀ (ys : List PyData) (F : Fr') (G : List O) (fl : Fl) (F' : Fr') (G' : List O), ForR cx n sc tg body ys F G fl F' G' → ∀ i, ys = xs.drop i → i ≤ xs.length → ∀ (B : Heap) (ρ : List Addr) (oa : List (Option Addr)) (s : Shared), Rel cx sc env s₀ ρ₀ F G B ρ oa s → Le Bs B → St i s.heap → Free cx env B ρ oa I →
      codeAny (model cx.prog cx.w) A (.forLoop target (.ref I) body [] env) (ForP cx sc env s₀ ρ₀ F' G' fl I B ρ oa s.heap) s := by
  intro ys F G fl F' G' h
  induction h with
  | nil =>
    intro i hi hle B ρ oa s R hB hSt fI
    have hi : i = xs.length := by
      have := congrArg List.length hi
      rw [List.length_drop] at this
      simp only [List.length_nil] at this
      lia
    subst hi
    refine codeAny_cps fun Q hQ => codeAny_of_tree ?_
    show wpAny _ A ((forTurn target (.ref I) body [] env).onRaise (fun x => do noteFrame x env; theTreesLotGoes x)) _ _ s
    refine wpAny_noted ?_
    simp only [forTurn]
    refine wpAny_bind (wpAny_standAt (wpAny_bind (wpAny_onRaise (it.w.done s _ _ hSt fun h' tk hk => wpAny_pure ⟨rfl, codeAny_block (wpAny_execs_nil ?_)⟩))))
    have hk : ∀ b o, b ≠ I → s.heap.get? b = some o → h'.get? b = some o := fun b o hb e => hk b o (mt List.mem_singleton.mp hb) e
    exact hQ _ _ ⟨_, rfl, B, ρ, oa, R.setFree fI hI0 hk, Le.refl B, List.prefix_refl ρ, rfl, fun d ob hd f _ e => ⟨hk d ob hd e, f⟩⟩
  | turn hb hbody hfl _ ih =>
    intro i hi hle B ρ oa s R hB hSt fI
    have hlt : i < xs.length := by
      have := congrArg List.length hi
      rw [List.length_drop] at this
      simp only [List.length_cons] at this
      lia
    rw [List.drop_eq_getElem_cons hlt] at hi
    cases hi
    refine codeAny_cps fun Q hQ => codeAny_of_tree ?_
    show wpAny _ A ((forTurn target (.ref I) body [] env).onRaise (fun x => do noteFrame x env; theTreesLotGoes x)) _ _ s
    refine wpAny_noted ?_
    simp only [forTurn]
    refine wpAny_bind (wpAny_standAt (wpAny_bind (wpAny_onRaise (it.w.item i s _ _ hlt hSt fun v h' tk hP hSt1 hk => ?_))))
    have hk : ∀ b o, b ≠ I → s.heap.get? b = some o → h'.get? b = some o := fun b o hb e => hk b o (mt List.mem_singleton.mp hb) e
    have R1 := R.setFree (tk := tk) fI hI0 hk
    refine wpAny_bind (it.nolet _ _ _ _ _ _ hSt1 ?_)
    obtain ⟨x', hx', rx⟩ := it.item i v hP
    rw [List.getElem?_eq_getElem hlt] at hx'; cases hx'
    refine wpAny_bind (bind_lg ok.hh R1 t (rx.mono hB) hb fun s2 oa2 R2 k2 hoa2 => ?_)
    obtain ⟨oI, hI1⟩ := Option.isSome_iff_exists.mp (it.alive _ _ hSt1)
    have hI2 := k2 I _ fI.l fI.c hI1
    have later : ∀ d, Free cx env B ρ oa d → Free cx env B ρ oa2 d := fun d f => ⟨f.b, f.base, f.r, fun j e => f.o j (hoa2 j d e), f.l, f.c, f.n⟩
    have hSt2 : St (i + 1) s2.heap := it.still hSt1 (fun o e => k2 I o fI.l fI.c e) (hB.trans R1.g.sub) (hB.trans R2.g.sub)
    refine wpAny_bind (wpAny_mono (hbody A env s₀ ρ₀ B ρ oa2 s2 ok R2) (fun f s3 q => ?_) fun _ _ x => x.elim)
    have frd : ∀ {B3 ρ3 oa3} {h3 : Heap}, Frees cx env s₀.heap B ρ oa2 s2.heap B3 ρ3 oa3 h3 → ∀ d ob, d ≠ I → Free cx env B ρ oa d → s₀.heap.get? d = none → s.heap.get? d = some ob → h3.get? d = some ob ∧ Free cx env B3 ρ3 oa3 d :=
      fun fr d ob hd f h0 e => fr d ob (later d f) h0 (k2 d ob f.l f.c (hk d ob hd e))
    obtain ⟨B3, ρ3, oa3, R3, l, p, fi, fr⟩ := q
    obtain ⟨hI3, fI3⟩ := fr I oI (later I fI) hI0 hI2
    have hSt3 : St (i + 1) s3.heap := it.still hSt2 (fun o e => by rw [hI2] at e; rw [hI3, e]) (hB.trans R2.g.sub) ((hB.trans l).trans R3.g.sub)
    have again := codeAny_mono (ih (i + 1) rfl (by lia) B3 ρ3 oa3 s3 R3 (hB.trans l) hSt3 fI3) fun r s' q => by
      obtain ⟨f', e, B4, ρ4, oa4, R4, l4, p4, fi4, fr4⟩ := q
      exact hQ _ _ (⟨f', e, B4, ρ4, oa4, R4, l.trans l4, p.trans p4, fi4, fun d ob hd f h0 e => by
          obtain ⟨a, b⟩ := frd fr d ob hd f h0 e
          exact fr4 d ob hd b h0 a⟩)
    rcases hfl with rfl | rfl
    · cases fi
      exact wpAny_pure ⟨rfl, again⟩
    · cases fi
      exact wpAny_pure ⟨rfl, again⟩
  | ret hb hbody =>
    intro i hi hle B ρ oa s R hB hSt fI
    have hlt : i < xs.length := by
      have := congrArg List.length hi
      rw [List.length_drop] at this
      simp only [List.length_cons] at this
      lia
    rw [List.drop_eq_getElem_cons hlt] at hi
    cases hi
    refine codeAny_cps fun Q hQ => codeAny_of_tree ?_
    show wpAny _ A ((forTurn target (.ref I) body [] env).onRaise (fun x => do noteFrame x env; theTreesLotGoes x)) _ _ s
    refine wpAny_noted ?_
    simp only [forTurn]
    refine wpAny_bind (wpAny_standAt (wpAny_bind (wpAny_onRaise (it.w.item i s _ _ hlt hSt fun v h' tk hP hSt1 hk => ?_))))
    have hk : ∀ b o, b ≠ I → s.heap.get? b = some o → h'.get? b = some o := fun b o hb e => hk b o (mt List.mem_singleton.mp hb) e
    have R1 := R.setFree (tk := tk) fI hI0 hk
    refine wpAny_bind (it.nolet _ _ _ _ _ _ hSt1 ?_)
    obtain ⟨x', hx', rx⟩ := it.item i v hP
    rw [List.getElem?_eq_getElem hlt] at hx'; cases hx'
    refine wpAny_bind (bind_lg ok.hh R1 t (rx.mono hB) hb fun s2 oa2 R2 k2 hoa2 => ?_)
    obtain ⟨oI, hI1⟩ := Option.isSome_iff_exists.mp (it.alive _ _ hSt1)
    have hI2 := k2 I _ fI.l fI.c hI1
    have later : ∀ d, Free cx env B ρ oa d → Free cx env B ρ oa2 d := fun d f => ⟨f.b, f.base, f.r, fun j e => f.o j (hoa2 j d e), f.l, f.c, f.n⟩
    have hSt2 : St (i + 1) s2.heap := it.still hSt1 (fun o e => k2 I o fI.l fI.c e) (hB.trans R1.g.sub) (hB.trans R2.g.sub)
    refine wpAny_bind (wpAny_mono (hbody A env s₀ ρ₀ B ρ oa2 s2 ok R2) (fun f s3 q => ?_) fun _ _ x => x.elim)
    have frd : ∀ {B3 ρ3 oa3} {h3 : Heap}, Frees cx env s₀.heap B ρ oa2 s2.heap B3 ρ3 oa3 h3 → ∀ d ob, d ≠ I → Free cx env B ρ oa d → s₀.heap.get? d = none → s.heap.get? d = some ob → h3.get? d = some ob ∧ Free cx env B3 ρ3 oa3 d :=
      fun fr d ob hd f h0 e => fr d ob (later d f) h0 (k2 d ob f.l f.c (hk d ob hd e))
    obtain ⟨B3, ρ3, oa3, R3, l, p, ⟨val, rfl, rv⟩, fr⟩ := q
    exact wpAny_pure (hQ _ _ ⟨_, rfl, B3, ρ3, oa3, R3, l, p, ⟨val, rfl, rv⟩, frd fr⟩)

theorem S_for {target iter : Expr} {tg : Tg} {body : List Stmt} {pos : Pos} {fl : Fl} {v : V} {xs : List PyData} (hp : plainE iter = true)
    (h_it : TE cx n sc iter F G v F₁ G₁) (hx : itemsV v = some xs) (t : TgIs sc target tg) (h : ForR cx n sc tg body xs F₁ G₁ fl F' G') : TS cx n sc (.For target iter body [] pos) F G fl F' G' := by
  intro A env s₀ ρ₀ B ρ oa s ok R
  refine wpAny_For (wpAny_mono (h_it A env s₀ ρ₀ B ρ oa s ok R) (fun x s₁ q => ?_) fun _ _ x => x) (fun x => folded_plain hp x)
  obtain ⟨B₁, ρ₁, oa₁, R₁, g₁, r₁⟩ := q
  refine iter_any ok.hh R₁ r₁ hx fun o hI hfz => ?_
  obtain ⟨fp, P, St, it, hSt⟩ := hI
  have R2 := R₁.grow (tk := s₁.toks) (h' := s₁.heap.push o) fun b o e => Heap.get?_push_of_some _ e
  have fI := R₁.fresh_apart (Nat.le_refl s₁.heap.objs.size)
  have nI := fresh_none s₁.heap
  refine codeAny_mono (for_ok ok t it (R₁.before fI.r nI) xs F₁ G₁ fl F' G' h 0 (by simp) (by lia) B₁ ρ₁ oa₁ _ R2 (Le.refl _) hSt fI) fun r s' q => ?_
  obtain ⟨f, rfl, B', ρ', oa', R', l, p, fi, fr⟩ := q
  refine ⟨B', ρ', oa', R', g₁.le.trans l, g₁.pre.trans p, fi, fun d ob fd h0 hd => ?_⟩
  have h1 := g₁.keep d ob fd.r hd
  exact fr d ob (by first | exact ne_get h1 (nI) | exact ne_iss h1 (nI) | exact ne_get (nI) h1 | (rintro rfl; rw [nI] at h1; cases h1)) (fd.later g₁ (by rw [hd]; rfl)) h0 (Heap.get?_push_of_some _ h1)
end
end Mine
namespace Mine
open PySem PySem.W PySem.Calls PyProof.Rows

theorem sws_tup {elts : List Expr} {k} {tp : Pos} {value : Expr} {line : Nat} {env : Env} : swapsWithSole [.Tuple elts k tp] value line env = pure false := by
  cases value <;> rfl

theorem sw_two {x y : Str} {px py : Pos} {k k'} {tp tp' : Pos} {a b : Expr} {env : Env} (hs : plainE a = true) (hs2 : plainE b = true) (hc : [a, b].all (constantsAlone 8) = false) :
    ∃ r, swappedStores [.Tuple [.Name x px, .Name y py] k tp] (.Tuple [a, b] k' tp') env = pure r ∧ (r = none ∨ r = some [x, y]) := by
  delta swappedStores
  dsimp only
  split
  · exact ⟨none, rfl, .inl rfl⟩
  · split
    · rename_i h
      exfalso
      obtain ⟨e, he, h⟩ := List.any_eq_true.mp h
      have hp : plainE e = true := by
        rcases List.mem_cons.mp he with rfl | he
        · exact hs
        · rcases List.mem_cons.mp he with rfl | he
          · exact hs2
          · cases he
      cases e <;> first | (cases hp; done) | (cases h; done)
    · split
      · exact ⟨none, rfl, .inl rfl⟩
      · rename_i hn
        split
        · exact ⟨none, rfl, .inl rfl⟩
        · rw [hc]
          refine ⟨_, rfl, .inr ?_⟩
          congr 1
          simp only [List.filterMap_cons, List.filterMap_nil] at hn ⊢
          generalize (env.kindOf x == some NameKind.local && px.line == (Option.map (fun x => x.pos.line) [Expr.Name x px, Expr.Name y py].head?).getD 0) = bx at hn ⊢
          generalize (env.kindOf y == some NameKind.local && py.line == (Option.map (fun x => x.pos.line) [Expr.Name x px, Expr.Name y py].head?).getD 0) = bz at hn ⊢
          cases bx <;> cases bz <;> first | rfl | (exact absurd rfl hn) | (simp at hn)

section
variable {cx : Cx} {n : Nat} {sc : Sc} {F F' F₁ F₂ Fb : List (Option V)} {G G' G₁ G₂ : List O} {B B' B'' : Heap} {ρ ρ' ρ'' : List Addr} {env : Env} {oa oa' oa'' : List (Option Addr)} {s₀ s s' : Shared} {ρ₀ : List Addr} {ex : List Addr} {h h' h'' : Heap}

/-- two owners' values are stored, one behind the other -/
theorem store2 {M : Model} {A : Around} {E : Value → Shared → Prop} (R : Rel cx sc env s₀ ρ₀ F G B ρ oa s) {x y : Str} {i j : Nat} {val₁ val₂ : Value} {v₁ v₂ : V} {o₁ o₂ : Option Addr} (hn : sc.nm[i]? = some (some x)) (hk : canSt sc x) (hn2 : sc.nm[j]? = some (some y)) (hk2 : canSt sc y)
    (r₁ : RepX cx B ρ s.heap o₁ val₁ v₁) (r₂ : RepX cx B ρ s.heap o₂ val₂ v₂)
    (h₁ : (o₁ = none ∧ v₁.owned = false) ∨ (∃ a, o₁ = some a ∧ Free cx env B ρ oa a ∧ s₀.heap.get? a = none ∧ (s.heap.get? a).isSome))
    (h₂ : (o₂ = none ∧ v₂.owned = false) ∨ (∃ a, o₂ = some a ∧ Free cx env B ρ oa a ∧ s₀.heap.get? a = none ∧ (s.heap.get? a).isSome)) (hne : ∀ a, o₁ = some a → o₂ ≠ some a) {Q : Unit → Shared → Prop}
    (q : ∀ s', Rel cx sc env s₀ ρ₀ (setF (setF F i (some v₁)) j (some v₂)) G B ρ (setA (setA oa i o₁) j o₂) s' → KeepE env s.heap s'.heap → Q () s') :
    wpAny M A (storeName env x val₁) (fun _ s₁ => wpAny M A (storeName env y val₂) Q E s₁) E s := by
  refine store_rel R hn hk r₁ h₁ fun s₁ R₁ k₁ => ?_
  have kp : ∀ a, o₂ = some a → ∀ ob, s.heap.get? a = some ob → s₁.heap.get? a = some ob := fun a ha ob e => by
    rcases h₂ with ⟨e2, _⟩ | ⟨a', e2, f, _⟩
    · rw [e2] at ha; cases ha
    · rw [e2] at ha; cases ha; exact k₁ a ob f.l f.c e
  refine store_rel R₁ hn2 hk2 (r₂.mono (Le.refl B) (List.prefix_refl ρ) kp) (h₂.imp id fun ⟨a, e, f, h0, h1⟩ => ⟨a, e, free_store f fun e' => hne a e' e, h0, ?_⟩) fun s₂ R₂ k₂ => q s₂ R₂ (KeepE.trans k₁ k₂)
  obtain ⟨ob, hob⟩ := Option.isSome_iff_exists.mp h1
  rw [kp a e ob hob]; rfl

theorem setF_comm (F : Fr') {i j : Nat} (h : i ≠ j) (a b : Option V) : setF (setF F i a) j b = setF (setF F j b) i a := by
  unfold setF; exact List.set_comm a b h

/-- whose a value is: a plain one, or a new thing of nobody -/
noncomputable def OwnW (cx : Cx) (env : Env) (s₀ : Heap) (B : Heap) (ρ : List Addr) (oa : List (Option Addr)) (h hs : Heap) (o : Option Addr) (v : V) : Prop :=
  (o = none ∧ v.owned = false) ∨ (∃ a, o = some a ∧ Free cx env B ρ oa a ∧ s₀.get? a = none ∧ (hs.get? a).isSome ∧ h.get? a = none)
theorem OwnW.later {o v} (R : Rel cx sc env s₀ ρ₀ F G B ρ oa s) (x : OwnW cx env s₀.heap B ρ oa h s.heap o v) (g : Gr B ρ oa s.heap B' ρ' oa' h') : OwnW cx env s₀.heap B' ρ' oa' h h' o v := by
  rcases x with x | ⟨a, e, f, h0, h1, h3⟩
  · exact .inl x
  · obtain ⟨ob, hob⟩ := Option.isSome_iff_exists.mp h1
    exact .inr ⟨a, e, f.later g h1, h0, by rw [g.keep a ob f.r hob]; rfl, h3⟩
theorem OwnW.kp {o v} (x : OwnW cx env s₀.heap B ρ oa h h' o v) (g : Gr B ρ oa h' B' ρ' oa' h'') : ∀ a, o = some a → ∀ ob, h'.get? a = some ob → h''.get? a = some ob := fun a ha ob e => by
  rcases x with ⟨e2, _⟩ | ⟨a', e2, f, _⟩
  · rw [e2] at ha; cases ha
  · rw [e2] at ha; cases ha; exact g.keep a ob f.r e
theorem OwnW.early {o v} (x : OwnW cx env s₀.heap B' ρ' oa' h' h'' o v) (g : Gr B ρ oa h B₂ ρ₂ oa₂ h') (p : ρ₂ <+: ρ') : OwnW cx env s₀.heap B' ρ' oa' h h'' o v := by
  rcases x with x | ⟨a, e, f, h0, h1, h3⟩
  · exact .inl x
  · exact .inr ⟨a, e, f, h0, h1, g.none_of h3 fun hr => f.r (pre_mem p hr)⟩
theorem OwnW.ne {o v d ob} (x : OwnW cx env s₀.heap B ρ oa h h' o v) (hd : h.get? d = some ob) : o ≠ some d := fun e => by
  rcases x with ⟨e2, _⟩ | ⟨a, e2, _, _, _, h3⟩
  · rw [e2] at e; cases e
  · rw [e2] at e; cases e; rw [h3] at hd; cases hd
theorem OwnW.alive {o v a} (x : OwnW cx env s₀.heap B ρ oa h h' o v) (e : o = some a) : (h'.get? a).isSome := by
  rcases x with ⟨e2, _⟩ | ⟨a', e2, _, _, h1, _⟩
  · rw [e2] at e; cases e
  · rw [e2] at e; cases e; exact h1
theorem OwnW.st {o v} (x : OwnW cx env s₀.heap B ρ oa h h' o v) (kk : ∀ b o, h'.get? b = some o → h''.get? b = some o) : (o = none ∧ v.owned = false) ∨ (∃ a, o = some a ∧ Free cx env B ρ oa a ∧ s₀.heap.get? a = none ∧ (h''.get? a).isSome) := by
  rcases x with x | ⟨a, e, f, h0, h1, h3⟩
  · exact .inl x
  · obtain ⟨ob, hob⟩ := Option.isSome_iff_exists.mp h1
    exact .inr ⟨a, e, f, h0, by rw [kk a ob hob]; rfl⟩

/-- a display of two values -/
theorem tup2 {A : Around} (ok : AOk n A) (R : Rel cx sc env s₀ ρ₀ F G B ρ oa s) {e₁ e₂ : Expr} {v₁ v₂ : V} {k' : Nat} {tp' : Pos} (hp1 : plainE e₁ = true) (hp2 : plainE e₂ = true) (h₁ : TW cx n sc e₁ F G v₁ F₁ G₁) (h₂ : TW cx n sc e₂ F₁ G₁ v₂ F' G') (Q : Value → Shared → Prop)
    (q : ∀ val₁ val₂ s₂ B₂ ρ₂ oa₂ o₁ o₂, Rel cx sc env s₀ ρ₀ F' G' B₂ ρ₂ oa₂ s₂ → Gr B ρ oa s.heap B₂ ρ₂ oa₂ s₂.heap → RepX cx B₂ ρ₂ s₂.heap o₁ val₁ v₁ → RepX cx B₂ ρ₂ s₂.heap o₂ val₂ v₂ →
      OwnW cx env s₀.heap B₂ ρ₂ oa₂ s.heap s₂.heap o₁ v₁ → OwnW cx env s₀.heap B₂ ρ₂ oa₂ s.heap s₂.heap o₂ v₂ → (∀ a, o₁ = some a → o₂ ≠ some a) →
      Q (.ref s₂.heap.objs.size) { s₂ with heap := s₂.heap.push { cls := .type "tuple", data := .seq #[val₁, val₂] } }) :
    wpAny (model cx.prog cx.w) A (eval (.Tuple [e₁, e₂] k' tp') env) Q (fun _ _ => False) s := by
  refine Tuple_ (args_cons (wpAny_mono (h₁ A env s₀ ρ₀ B ρ oa s ok R) (fun val₁ s₁ p => ?_) fun _ _ x => x) (star_plain hp1))
  obtain ⟨B₁, ρ₁, oa₁, o₁, R₁, g₁, r₁, ho₁⟩ := p
  have ho₁ : OwnW cx env s₀.heap B₁ ρ₁ oa₁ s.heap s₁.heap o₁ v₁ := ho₁
  refine args_cons (wpAny_mono (h₂ A env s₀ ρ₀ B₁ ρ₁ oa₁ s₁ ok R₁) (fun val₂ s₂ p => args_nil (wpAny_newObj_type ?_ (by show 2 ≤ sizeLine; rw [sizeLine_eq]; lia))) fun _ _ x => x) (star_plain hp2)
  obtain ⟨B₂, ρ₂, oa₂, o₂, R₂, g₂, r₂, ho₂⟩ := p
  have ho₂ : OwnW cx env s₀.heap B₂ ρ₂ oa₂ s₁.heap s₂.heap o₂ v₂ := ho₂
  refine q val₁ val₂ s₂ B₂ ρ₂ oa₂ o₁ o₂ R₂ (g₁.trans g₂) (r₁.mono g₂.le g₂.pre (ho₁.kp g₂)) r₂ (ho₁.later R₁ g₂) (ho₂.early g₁ g₂.pre) fun a e1 e2 => ?_
  obtain ⟨ob, hob⟩ := Option.isSome_iff_exists.mp (ho₁.alive e1)
  exact ho₂.ne hob e2

theorem fin2 {A : Around} {x y : Str} {i j : Nat} {v₁ v₂ : V} (hn : sc.nm[i]? = some (some x)) (hk : canSt sc x) (hn2 : sc.nm[j]? = some (some y)) (hk2 : canSt sc y) (hij : i ≠ j) {val₁ val₂ : Value} {s₂ : Shared} {B₂ : Heap} {ρ₂ : List Addr} {oa₂ : List (Option Addr)} {o₁ o₂ : Option Addr}
    (R₂ : Rel cx sc env s₀ ρ₀ F' G' B₂ ρ₂ oa₂ s₂) (g : Gr B ρ oa s.heap B₂ ρ₂ oa₂ s₂.heap) (r₁ : RepX cx B₂ ρ₂ s₂.heap o₁ val₁ v₁) (r₂ : RepX cx B₂ ρ₂ s₂.heap o₂ val₂ v₂) (ho₁ : OwnW cx env s₀.heap B₂ ρ₂ oa₂ s.heap s₂.heap o₁ v₁) (ho₂ : OwnW cx env s₀.heap B₂ ρ₂ oa₂ s.heap s₂.heap o₂ v₂)
    (hne : ∀ a, o₁ = some a → o₂ ≠ some a) (kk : ∀ b o, s₂.heap.get? b = some o → h'.get? b = some o) :
    (wpAny (model cx.prog cx.w) A (storeName env x val₁) (fun _ s₁ => wpAny (model cx.prog cx.w) A (storeName env y val₂) (fun _ s' => PostS cx sc env s₀ ρ₀ (setF (setF F' j (some v₂)) i (some v₁)) G' B ρ oa s.heap .next .next s') (fun _ _ => False) s₁) (fun _ _ => False) { s₂ with heap := h' }) ∧
    (wpAny (model cx.prog cx.w) A (storeName env y val₂) (fun _ s₁ => wpAny (model cx.prog cx.w) A (storeName env x val₁) (fun _ s' => PostS cx sc env s₀ ρ₀ (setF (setF F' j (some v₂)) i (some v₁)) G' B ρ oa s.heap .next .next s') (fun _ _ => False) s₁) (fun _ _ => False) { s₂ with heap := h' }) := by
  have R₃ := R₂.grow (tk := s₂.toks) kk
  have r₁' := r₁.mono (Le.refl B₂) (List.prefix_refl ρ₂) (h' := h') fun a _ ob e => kk a ob e
  have r₂' := r₂.mono (Le.refl B₂) (List.prefix_refl ρ₂) (h' := h') fun a _ ob e => kk a ob e
  refine ⟨store2 R₃ hn hk hn2 hk2 r₁' r₂' (ho₁.st kk) (ho₂.st kk) hne fun s' R' ke => ?_, store2 R₃ hn2 hk2 hn hk r₂' r₁' (ho₂.st kk) (ho₁.st kk) (fun a e1 e2 => hne a e2 e1) fun s' R' ke => ?_⟩
  · rw [setF_comm F' hij] at R'
    refine ⟨B₂, ρ₂, _, R', g.le, g.pre, rfl, fun d ob f h0 hd => ?_⟩
    have f' := f.later g (by rw [hd]; rfl)
    exact ⟨ke d ob f'.l f'.c (kk d ob (g.keep d ob f.r hd)), free_store (free_store f' (ho₁.ne hd)) (ho₂.ne hd)⟩
  · refine ⟨B₂, ρ₂, _, R', g.le, g.pre, rfl, fun d ob f h0 hd => ?_⟩
    have f' := f.later g (by rw [hd]; rfl)
    exact ⟨ke d ob f'.l f'.c (kk d ob (g.keep d ob f.r hd)), free_store (free_store f' (ho₂.ne hd)) (ho₁.ne hd)⟩

theorem inOrder2 {M : Model} {A : Around} {E : Value → Shared → Prop} {Q : Unit → Shared → Prop} {t₁ t₂ : Value → Sem Unit} {a b : Value} (h : wpAny M A (t₁ a) (fun _ s₁ => wpAny M A (t₂ b) Q E s₁) E s) : wpAny M A (assignInOrder [t₁, t₂] [a, b]) Q E s :=
  wpAny_assignInOrder_more (wpAny_mono h (fun _ _ p => wpAny_assignInOrder_more (wpAny_mono p (fun _ _ p => wpAny_assignInOrder_none p) fun _ _ x => x)) fun _ _ x => x)

theorem S_asg2 {x y : Str} {px py tp tp' pos : Pos} {k k'} {e₁ e₂ : Expr} {i j : Nat} {v₁ v₂ : V} (hn : sc.nm[i]? = some (some x)) (hk : canSt sc x) (hn2 : sc.nm[j]? = some (some y)) (hk2 : canSt sc y) (hij : i ≠ j)
    (hp1 : plainE e₁ = true) (hp2 : plainE e₂ = true) (hc : [e₁, e₂].all (constantsAlone 8) = false) (h₁ : TW cx n sc e₁ F G v₁ F₁ G₁) (h₂ : TW cx n sc e₂ F₁ G₁ v₂ F' G') :
    TS cx n sc (.Assign [.Tuple [.Name x px, .Name y py] k tp] (.Tuple [e₁, e₂] k' tp') pos) F G .next (setF (setF F' j (some v₂)) i (some v₁)) G' := by
  intro A env s₀ ρ₀ B ρ oa s ok R
  have kk : ∀ {h h' : Heap} {o : Obj}, Heap.ExtBut (h.push o).objs.size (h.push o) h' → ∀ b o, h.get? b = some o → h'.get? b = some o := fun he b o e =>
    he b o (Nat.ne_of_lt (by rw [Heap.size_push]; exact Nat.lt_succ_of_lt (Heap.lt_size e))) (Heap.get?_push_of_some _ e)
  obtain ⟨r, hr, hsw⟩ := sw_two (x := x) (y := y) (px := px) (py := py) (k := k) (k' := k') (tp := tp) (tp' := tp') (env := env) hp1 hp2 hc
  rcases hsw with rfl | rfl
  · refine Assign_Tuple (tup2 ok R hp1 hp2 h₁ h₂ _ fun val₁ val₂ s₂ B₂ ρ₂ oa₂ o₁ o₂ R₂ g r₁ r₂ ho₁ ho₂ hne => ?_) sws_tup hr
    have ht : IsTup (s₂.heap.push { cls := .type "tuple", data := .seq #[val₁, val₂] }) s₂.heap.objs.size #[val₁, val₂] := ⟨_, Heap.get?_push_size _ rfl, rfl, 0, rfl⟩
    refine assign_Tuple_tuple ok.hh ht rfl rfl fun h' he => inOrder2 (assign_Name (wpAny_mono (fin2 hn hk hn2 hk2 hij R₂ g r₁ r₂ ho₁ ho₂ hne (kk he)).1 (fun _ s' p => assign_Name p) fun _ _ x => x))
  · refine Assign_Tuple_swapped (names := [x, y]) (tup2 ok R hp1 hp2 h₁ h₂ _ fun val₁ val₂ s₂ B₂ ρ₂ oa₂ o₁ o₂ R₂ g r₁ r₂ ho₁ ho₂ hne => ?_) sws_tup hr
    have ht : IsTup (s₂.heap.push { cls := .type "tuple", data := .seq #[val₁, val₂] }) s₂.heap.objs.size #[val₁, val₂] := ⟨_, Heap.get?_push_size _ rfl, rfl, 0, rfl⟩
    show wpAny _ A (unpackItems (.ref s₂.heap.objs.size) (#[val₁, val₂] : Array Value).size none) _ _ _
    refine unpackItems_tuple ok.hh ht fun h' he => ?_
    show wpAny _ A (assignInOrder [fun v => bindName env y v, fun v => bindName env x v] [val₂, val₁]) _ _ _
    exact inOrder2 (t₁ := fun v => bindName env y v) (t₂ := fun v => bindName env x v) (bindName_ (wpAny_mono (fin2 hn hk hn2 hk2 hij R₂ g r₁ r₂ ho₁ ho₂ hne (kk he)).2 (fun _ s' p => bindName_ p) fun _ _ x => x))
end
end Mine
namespace Mine
open PySem PySem.W PySem.Calls PyProof.Rows

section
variable {cx : Cx} {n : Nat} {sc : Sc} {F F' F₁ F₂ Fb : List (Option V)} {G G' G₁ G₂ : List O} {B B' B'' : Heap} {ρ ρ' ρ'' : List Addr} {env : Env} {oa oa' oa'' : List (Option Addr)} {s₀ s s' : Shared} {ρ₀ : List Addr} {ex : List Addr} {h h' h'' : Heap}

theorem Rel.setR (R : Rel cx sc env s₀ ρ₀ F G B ρ oa s) {m : Nat} {a : Addr} {o' : O} (hm : ρ[m]? = some a) (k : ∀ b o, b ≠ a → s.heap.get? b = some o → h'.get? b = some o) (ob : ObjAt cx B h' a o') {tk : Nat} :
    Rel cx sc env s₀ ρ₀ F (G.set m o') B ρ oa { s with heap := h', toks := tk } := by
  obtain ⟨h0, t0, e0⟩ := R.same
  have ha := List.mem_of_getElem? hm
  have out := R.g.out a ha
  have hmG : m < G.length := by rw [R.g.len]; exact (List.getElem?_eq_some_iff.mp hm).1
  refine { same := ⟨h', tk, by rw [e0]⟩, keep := fun b o hb e => k b o (by
      rintro rfl
      rcases R.newR _ ha with q | q
      · exact hb q
      · rw [q] at e; cases e) (R.keep b o hb e), pre := R.pre, newR := R.newR, nB := R.nB, g := ?_, e := ?_ }
  · refine R.g.at out.1 out.2.1 k (by simp) fun j o hj => ?_
    rw [List.getElem?_set] at hj
    split at hj
    · rename_i e
      subst e
      cases hj; exact .inr ⟨hm, ob⟩
    · rename_i hne
      obtain ⟨b, hb, _⟩ := R.g.obj j o hj
      refine .inl ⟨b, hb, ?_, hj⟩
      rintro rfl
      have := (List.getElem?_inj (List.getElem?_eq_some_iff.mp hm).1 R.g.nd).mp (hm.trans hb.symm)
      exact hne this
  · refine R.e.at (fun e => R.e.lout.2.2.1 (e ▸ ha)) (fun y c hc e => (R.e.cell y c hc).2.2.2.1 (e ▸ ha)) k (.inl fun i e => (R.e.own i a e).2.2.2.1 ha) (fun i y v hi hv => ⟨v, hv, fun val r => r.mono (Le.refl B) (List.prefix_refl ρ) fun b hb ob e => k b ob ?_ e⟩) fun i v hv ho => ⟨v, hv, ho⟩
    first | exact fun q => (R.e.own i _ hb).2.2.2.1 (q ▸ ha) | (rintro rfl; exact (R.e.own i _ hb).2.2.2.1 ha)

theorem Rel.setV (R : Rel cx sc env s₀ ρ₀ F G B ρ oa s) {i : Nat} {a : Addr} {v₀ v' : V} (hv : F[i]? = some (some v₀)) (ow : v₀.owned = true) (ha : oa.getD i none = some a) (k : ∀ b o, b ≠ a → s.heap.get? b = some o → h'.get? b = some o)
    (al : (h'.get? a).isSome) (r : RepX cx B ρ h' (some a) (.ref a) v') {tk : Nat} :
    Rel cx sc env s₀ ρ₀ (setF F i (some v')) G B ρ oa { s with heap := h', toks := tk } := by
  obtain ⟨h0, t0, e0⟩ := R.same
  obtain ⟨a0, a1, a2, a3, a4, a5, a6⟩ := R.e.own i a ha
  obtain ⟨b1, b2⟩ := R.e.ownI i v₀ a hv ow ha
  refine { same := ⟨h', tk, by rw [e0]⟩, keep := fun b o hb e => k b o (by first | exact ne_get e (b1) | exact ne_iss e (b1) | exact ne_get (b1) e | (rintro rfl; rw [b1] at e; cases e)) (R.keep b o hb e), pre := R.pre, newR := R.newR, nB := R.nB, g := ?_, e := ?_ }
  · refine R.g.at a1 a2 k rfl fun j o hj => ?_
    obtain ⟨b, hb, _⟩ := R.g.obj j o hj
    exact .inl ⟨b, hb, fun e => a3 (e ▸ List.mem_of_getElem? hb), hj⟩
  · refine R.e.at a4 a5 k (.inr al) (fun j y v hj hu => ?_) fun j v hu ho => ?_
    · rcases set_get hu with ⟨rfl, e⟩ | ⟨e1, e2⟩
      · cases e
        refine ⟨v₀, hv, fun val rv => ?_⟩
        rw [ha]
        cases v₀ with
        | ol xs => obtain ⟨a', e, rfl, _⟩ := rv; rw [ha] at e; cases e; exact r
        | od xs => obtain ⟨a', e, rfl, _⟩ := rv; rw [ha] at e; cases e; exact r
        | _ => cases ow
      · exact ⟨v, e2, fun val rv => rv.mono (Le.refl B) (List.prefix_refl ρ) fun b hb ob e => k b ob (by first | exact fun q => e1 (b2 j (q ▸ hb)) | (rintro rfl; exact e1 (b2 j hb))) e⟩
    · rcases set_get hu with ⟨rfl, e⟩ | ⟨e1, e2⟩
      · exact ⟨v₀, hv, ow⟩
      · exact ⟨v, e2, ho⟩

theorem frees_at (_ : Rel cx sc env s₀ ρ₀ F G B ρ oa s) {a : Addr} (ha : a ∈ ρ ∨ ∃ i : Nat, oa.getD i none = some a) (k : ∀ b o, b ≠ a → s.heap.get? b = some o → h'.get? b = some o) : Frees cx env s₀.heap B ρ oa s.heap B ρ oa h' := fun d ob f _ e =>
  ⟨k d ob (by rintro rfl; rcases ha with q | ⟨i, q⟩; exact f.r q; exact f.o i q) e, f⟩

theorem repVals_stored {kv : List (Int × Value)} {kvs : List (Int × PyData)} (r : RepVals cx B kv kvs) (i : Int) {v : Value} {x : PyData} (rv : Rep cx.prog cx.w B v x) : RepVals cx B (stored kv i v) (dput kvs i x) := by
  have keys : ∀ {kv : List (Int × Value)} {kvs : List (Int × PyData)}, RepVals cx B kv kvs → kv.any (fun p => p.1 = i) = kvs.any (fun p => p.1 = i) := fun r => by
    induction r with
    | nil => rfl
    | cons _ _ ih => simp only [List.any_cons, ih]
  unfold stored dput
  rw [keys r]
  split
  · rename_i hh; clear hh keys
    induction r with
    | nil => exact .nil
    | @cons k v' vs d ds r' _ ih =>
      simp only [List.map_cons]
      by_cases hk : k = i
      · simp only [hk, if_true]; exact .cons rv ih
      · simp only [hk, if_false]; exact .cons r' ih
  · rename_i hh; clear hh keys
    induction r with
    | nil => exact .cons rv .nil
    | cons r' _ ih => exact .cons r' ih
theorem repValsS_stored {kv : List (Str × Value)} {kvs : List (Str × PyData)} (r : RepValsS cx B kv kvs) (i : Str) {v : Value} {x : PyData} (rv : Rep cx.prog cx.w B v x) : RepValsS cx B (stored kv i v) (dputS kvs i x) := by
  have keys : ∀ {kv : List (Str × Value)} {kvs : List (Str × PyData)}, RepValsS cx B kv kvs → kv.any (fun p => p.1 = i) = kvs.any (fun p => p.1 = i) := fun r => by
    induction r with
    | nil => rfl
    | cons _ _ ih => simp only [List.any_cons, ih]
  unfold stored dputS
  rw [keys r]
  split
  · rename_i hh; clear hh keys
    induction r with
    | nil => exact .nil
    | @cons k v' vs d ds r' _ ih =>
      simp only [List.map_cons]
      by_cases hk : k = i
      · simp only [hk, if_true]; exact .cons rv ih
      · simp only [hk, if_false]; exact .cons r' ih
  · rename_i hh; clear hh keys
    induction r with
    | nil => exact .cons rv .nil
    | cons r' _ ih => exact .cons r' ih
theorem repVals_len {kv : List (Int × Value)} {kvs : List (Int × PyData)} (r : RepVals cx B kv kvs) : kv.length = kvs.length := by
  have := congrArg List.length (repVals_keys r); simpa using this
theorem repValsS_len {kv : List (Str × Value)} {kvs : List (Str × PyData)} (r : RepValsS cx B kv kvs) : kv.length = kvs.length := by
  induction r with
  | nil => rfl
  | cons _ _ ih => simp [ih]
theorem repT_len {xs : List (List Int × Addr × Value)} {kvs : List (List Int × Int)} (r : RepT cx B xs kvs) : xs.length = kvs.length := by
  have := congrArg List.length (repT_keys r); simpa using this

theorem repT_stored {xs : List (List Int × Addr × Value)} {kvs : List (List Int × Int)} (r : RepT cx B xs kvs) {q : List Int} {b : Addr} {i : Int} {t : Tok} (hk : IsTupleKey (intKind cx.prog cx.w) B q b) : RepT cx B (storedH xs q b (.int i t)) (dputT kvs q i) := by
  have keys : (atKey xs q).isSome = kvs.any (fun p => p.1 = q) := by
    cases e : dgetT kvs q with
    | none =>
      rw [(repT_get r q).1 e]
      unfold dgetT at e
      simp only [Option.map_eq_none_iff, List.find?_eq_none] at e
      symm
      rw [Option.isSome_none, List.any_eq_false]
      exact fun p hp => e p hp
    | some j =>
      obtain ⟨_, _, e'⟩ := (repT_get r q).2 j e
      rw [e']
      unfold dgetT at e
      simp only [Option.map_eq_some_iff] at e
      obtain ⟨p, hp, _⟩ := e
      symm
      rw [Option.isSome_some, List.any_eq_true]
      exact ⟨p, List.mem_of_find?_eq_some hp, by have := List.find?_some hp; exact this⟩
  unfold storedH dputT
  rw [keys]
  split
  · rename_i hh; clear hh keys
    induction r with
    | nil => exact .nil
    | @cons k a j t' es ds hk' _ ih =>
      simp only [List.map_cons, putAt]
      by_cases e : k = q
      · simp only [e, if_true]; exact .cons (e ▸ hk') ih
      · simp only [e, if_false]; exact .cons hk' ih
  · rename_i hh; clear hh keys
    induction r with
    | nil => exact .cons hk .nil
    | cons hk' _ ih => exact .cons hk' ih

/-- o[k] = v at one of the shared dicts -/
theorem setO_ds {y x : PyData} {kvs} {o' : O} (h : setO y x (.ds kvs) = some o') : ∃ k, y = .str k ∧ setO (.str k) x (.ds kvs) = some o' := by
  cases y with
  | str k => exact ⟨k, rfl, h⟩
  | _ => cases h
theorem setO_dt {y x : PyData} {kvs} {o' : O} (h : setO y x (.dt kvs) = some o') : ∃ ys i k, y = .tuple ys ∧ x = .int i ∧ asInts ys = some k ∧ setO (.tuple ys) (.int i) (.dt kvs) = some o' := by
  cases y with
  | tuple ys => cases x with
    | int i => obtain ⟨k, hk, _⟩ := Option.bind_eq_some_iff.mp h; exact ⟨ys, i, k, rfl, rfl, hk, h⟩
    | _ => cases h
  | _ => cases h
theorem setItem_obj {A : Around} {E : Value → Shared → Prop} (ok : AOk n A) (l : Le B s.heap) {a : Addr} {o o' : O} {iv v : Value} {y x : PyData} (ob : ObjAt cx B s.heap a o) (ry : Rep cx.prog cx.w B iv y) (rx : Rep cx.prog cx.w B v x) (hz : setO y x o = some o')
    {Q : Unit → Shared → Prop} (q : ∀ h' tk, ObjAt cx B h' a o' → Heap.SameBut a s.heap h' → Q () { s with heap := h', toks := tk }) : wpAny (model cx.prog cx.w) A (setItem (.ref a) iv v) Q E s := by
  cases o with
  | di kvs =>
    simp only [setO, Option.bind_eq_some_iff] at hz
    obtain ⟨i, hi, hz⟩ := hz
    split at hz
    · rename_i hs
      cases hz
      obtain rfl := asInt_eq hi
      obtain ⟨_, rfl⟩ := rep_int ry
      obtain ⟨kv, hd, r⟩ := ob
      refine wpAny_setItem_pairs (intKind_is _ _ _ _) hd (fun h' hd' sb => q h' _ ⟨_, hd', repVals_stored r _ rx⟩ sb) (by rw [repVals_len r]; exact szOk_line hs)
    · cases hz
  | ds kvs =>
    obtain ⟨_, rfl, hz⟩ := setO_ds hz
    simp only [setO] at hz
    split at hz
    · rename_i hs
      cases hz
      obtain ⟨_, rfl⟩ := rep_str ry
      obtain ⟨kv, hd, r⟩ := ob
      refine wpAny_setItem_pairs (strKind_is _ _ _ _) hd (fun h' hd' sb => q h' _ ⟨_, hd', repValsS_stored r _ rx⟩ sb) (by rw [repValsS_len r]; exact szOk_line hs)
    · cases hz
  | dt kvs =>
    obtain ⟨ys, i, _, rfl, rfl, _, hz⟩ := setO_dt hz
    simp only [setO, Option.bind_eq_some_iff] at hz
    obtain ⟨k, hk, hz⟩ := hz
    split at hz
    · rename_i hs
      cases hz
      obtain ⟨t, rfl⟩ := rep_int rx
      obtain ⟨b, rfl, hkey⟩ := tupKey_of_rep ry hk
      obtain ⟨xs, hd, r⟩ := dtAt_dict l ob
      refine wpAny_setItem_heap (knd := tupleKind (intKind cx.prog cx.w)) (tupleKind_room_in1 (by have := ok.un; lia)) (tupKey_mono (cx := cx) l hkey) hd (fun h' hd' sb => q h' _ ?_ sb) (by rw [repT_len r]; exact szOk_line hs)
      obtain ⟨ob, es, ep, h1, h2, h3, h4, _, h6⟩ := hd'
      have r' := repT_stored r (i := i) (t := t) hkey
      exact ⟨ob, es, ep, _, h1, h2, h3, h4, r', by rw [← repT_keys r']; exact h6⟩
    · cases hz
  | list => cases hz

theorem S_setR {o k e : Expr} {p pos : Pos} {m : Nat} {x y : PyData} {ob ob' : O} (hc : isComp e = false) (h₁ : TE cx n sc e F G (.d x) F₁ G₁) (h₂ : TE cx n sc o F₁ G₁ (.h m) F₁ G₁) (h₃ : TE cx n sc k F₁ G₁ (.d y) F' G') (hm : G'[m]? = some ob) (hz : setO y x ob = some ob') :
    TS cx n sc (.Assign [.Subscript o k p] e pos) F G .next F' (G'.set m ob') := by
  intro A env s₀ ρ₀ B ρ oa s ok R
  refine wpAny_Assign_Subscript (wpAny_mono (h₁ A env s₀ ρ₀ B ρ oa s ok R) (fun v s₁ q => ?_) fun _ _ x => x) (swaps_no hc _ _ _)
  obtain ⟨B₁, ρ₁, oa₁, R₁, g₁, r₁⟩ := q
  refine two h₂ h₃ ok R₁ fun c i s₂ B₂ ρ₂ oa₂ R₂ g₂ rc ri => ?_
  obtain ⟨a, ha, rfl⟩ := rc
  obtain ⟨a', ha', hob⟩ := R₂.g.obj m ob hm
  rw [ha] at ha'; cases ha'
  refine setItem_obj ok R₂.g.sub hob ri (Rep.mono g₂.le r₁) hz fun h' tk ho sb => ?_
  have kk : ∀ b o, b ≠ a → s₂.heap.get? b = some o → h'.get? b = some o := fun b o hb e => (sb.2 b hb).trans e
  have g := g₁.trans g₂
  exact ⟨B₂, ρ₂, oa₂, R₂.setR ha kk ho, g.le, g.pre, rfl, g.frees.trans (frees_at R₂ (.inl (List.mem_of_getElem? ha)) kk)⟩

/-- o[k] = v at an owned dict -/
theorem S_setV {x : Str} {k e : Expr} {px p pos : Pos} {i : Nat} {j : Int} {z : PyData} {kvs : List (Int × PyData)} (hc : isComp e = false) (hx : oddName x = false) (hn : sc.nm[i]? = some (some x)) (h₁ : TE cx n sc e F G (.d z) F₁ G₁) (h₃ : TE cx n sc k F₁ G₁ (.d (.int j)) F' G') (hu : getF F' i = some (.od kvs)) (hu₁ : getF F₁ i = some (.od kvs)) (hs : szOk kvs.length = true) :
    TS cx n sc (.Assign [.Subscript (.Name x px) k p] e pos) F G .next (setF F' i (some (.od (dput kvs j z)))) G' := by
  intro A env s₀ ρ₀ B ρ oa s ok R
  refine wpAny_Assign_Subscript (wpAny_mono (h₁ A env s₀ ρ₀ B ρ oa s ok R) (fun v s₁ q => ?_) fun _ _ x => x) (swaps_no hc _ _ _)
  obtain ⟨B₁, ρ₁, oa₁, R₁, g₁, r₁⟩ := q
  refine varThen hx hn h₃ hu ⟨_, hu₁⟩ ok R₁ fun c iv s₂ B₂ ρ₂ oa₂ R₂ g₂ rc ri => ?_
  have ri : Rep cx.prog cx.w B₂ iv (.int j) := ri
  cases ri
  obtain ⟨a, ha, rfl, kv, hd, r⟩ := rc
  refine wpAny_setItem_pairs (intKind_is _ _ _ _) hd (fun h' hd' sb => ?_) (by rw [repVals_len r]; exact szOk_line hs)
  have kk : ∀ b o, b ≠ a → s₂.heap.get? b = some o → h'.get? b = some o := fun b o hb e => (sb.2 b hb).trans e
  have g := g₁.trans g₂
  exact ⟨B₂, ρ₂, oa₂, R₂.setV (v₀ := .od kvs) (v' := .od (dput kvs j z)) (getF_get hu) rfl ha kk (by obtain ⟨_, _, _, e, _⟩ := hd'; rw [e]; rfl) ⟨a, rfl, rfl, _, hd', repVals_stored r _ (Rep.mono g₂.le r₁)⟩, g.le, g.pre, rfl, g.frees.trans (frees_at R₂ (.inr ⟨i, ha⟩) kk)⟩
end
end Mine
namespace Mine
open PySem PySem.W PySem.Calls PyProof.Rows

section
variable {cx : Cx} {n : Nat} {sc : Sc} {F F' F₁ F₂ Fb : List (Option V)} {G G' G₁ G₂ : List O} {B B' B'' : Heap} {ρ ρ' ρ'' : List Addr} {env : Env} {oa oa' oa'' : List (Option Addr)} {s₀ s s' : Shared} {ρ₀ : List Addr} {ex : List Addr} {h h' h'' : Heap}

theorem no_inter (R : Rel cx sc env s₀ ρ₀ F G B ρ oa s) : interactive env = false := by unfold interactive; rw [R.e.fn]; rfl

/-- a call of a built-in method with one argument, as a statement -/
theorem S_meth1 {A : Around} (_ : AOk n A) (R : Rel cx sc env s₀ ρ₀ F G B ρ oa s) {o e : Expr} {m : Str} {id T : String} {ap p pos : Pos} (ho : attrBase o = true) (hl : (ap.endLine == p.line) = true) (hp : plainE e = true) {Q : Flow → Shared → Prop}
    (pa : PlainAttrs T) (slot : Slot T m id) (hty : typeOf (.builtin id) = pure (.type "method_descriptor"))
    (h : wpAny (model cx.prog cx.w) A (eval o env) (fun ov s₁ => s₁.TypeIs ov T ∧ (∀ a, ov = .ref a → ∃ o, s₁.heap.get? a = some o ∧ o.dict = none) ∧ wpAny (model cx.prog cx.w) A (eval e env) (fun v s₂ => wpAny (model cx.prog cx.w) A (call (.builtin id) [ov, v]) (fun r s₃ => r = .none ∧ Q .next s₃) (fun _ _ => False) s₂) (fun _ _ => False) s₁) (fun _ _ => False) s) :
    wpAny (model cx.prog cx.w) A (exec (.Expr (.Call (.Attribute o m ap) [e] [] p) pos) env) Q (fun _ _ => False) s := by
  refine wpAny_Expr (MethodCall_ (wpAny_mono h (fun ov s₁ h₁ => ?_) fun _ _ x => x) (eval_mcall ho hl (by simp [hp]) (by simp))) (no_inter R) rfl
  obtain ⟨hT, hd, h₁⟩ := h₁
  refine getMethod_builtin hT pa slot hty hd ?_
  refine callWith_method1 (args_cons (wpAny_mono h₁ (fun v s₂ h₂ => args_nil (wpAny_mono h₂ (fun r s₃ h₃ => ?_) fun _ _ x => x)) fun _ _ x => x) (star_plain hp)) (star_plain hp) rfl
  obtain ⟨rfl, h₃⟩ := h₃
  exact h₃

theorem S_appR {o e : Expr} {ap p pos : Pos} {m : Nat} {x : PyData} {xs : List PyData} (ho : attrBase o = true) (hl : (ap.endLine == p.line) = true) (hp : plainE e = true) (h₂ : TE cx n sc o F G (.h m) F G) (h₁ : TE cx n sc e F G (.d x) F' G')
    (hm0 : ∃ ys, G[m]? = some (.list ys)) (hm : G'[m]? = some (.list xs)) (hz : szOk xs.length = true) : TS cx n sc (.Expr (.Call (.Attribute o "append" ap) [e] [] p) pos) F G .next F' (G'.set m (.list (xs ++ [x]))) := by
  intro A env s₀ ρ₀ B ρ oa s ok R
  refine S_meth1 ok R ho hl hp PySem.F.plainAttrs_list slot_list_append type_list_append (wpAny_mono (h₂ A env s₀ ρ₀ B ρ oa s ok R) (fun ov s₁ q => ?_) fun _ _ x => x)
  obtain ⟨B₁, ρ₁, oa₁, R₁, g₁, a, ha, rfl⟩ := q
  obtain ⟨ys, hm0⟩ := hm0
  obtain ⟨a', ha', vs0, ⟨n0, hv0⟩, _⟩ := R₁.g.obj m _ hm0
  rw [ha] at ha'; cases ha'
  refine ⟨⟨_, hv0, rfl⟩, (fun b e => by cases e; exact ⟨_, hv0, rfl⟩), wpAny_mono (h₁ A env s₀ ρ₀ B₁ ρ₁ oa₁ s₁ ok R₁) (fun v s₂ q => ?_) fun _ _ x => x⟩
  obtain ⟨B₂, ρ₂, oa₂, R₂, g₂, r₂⟩ := q
  have ha2 := pre_get g₂.pre ha
  obtain ⟨a', ha', vs, ⟨n1, hv⟩, hr⟩ := R₂.g.obj m _ hm
  rw [ha2] at ha'; cases ha'
  have e1 := hr.length
  simp only [Array.length_toList] at e1
  refine wpAny_list_append_plain ⟨n1, hv⟩ (fun h' hl' sb => ⟨rfl, ?_⟩) (by rw [e1]; exact szOk_line hz)
  have kk : ∀ b o, b ≠ a → s₂.heap.get? b = some o → h'.get? b = some o := fun b o hb e => (sb.2 b hb).trans e
  have g := g₁.trans g₂
  exact ⟨B₂, ρ₂, oa₂, R₂.setR (o' := .list (xs ++ [x])) ha2 kk ⟨_, hl', by rw [Array.toList_push]; exact hr.snoc r₂⟩, g.le, g.pre, rfl, g.frees.trans (frees_at R₂ (.inl (List.mem_of_getElem? ha2)) kk)⟩

theorem S_appV {y : Str} {e : Expr} {py ap p pos : Pos} {i : Nat} {x : PyData} {xs : List PyData} (hl : (ap.endLine == p.line) = true) (hp : plainE e = true) (hx : oddName y = false) (hn : sc.nm[i]? = some (some y)) (h₁ : TE cx n sc e F G (.d x) F' G')
    (hu₀ : getF F i = some (.ol xs)) (hu : getF F' i = some (.ol xs)) (hz : szOk xs.length = true) : TS cx n sc (.Expr (.Call (.Attribute (.Name y py) "append" ap) [e] [] p) pos) F G .next (setF F' i (some (.ol (xs ++ [x])))) G' := by
  intro A env s₀ ρ₀ B ρ oa s ok R
  obtain ⟨val, v1, a0, ha0, rfl, vs0, ⟨n0, hv0⟩, _⟩ := R.e.vars i y _ hn (getF_get hu₀)
  refine S_meth1 ok R rfl hl hp PySem.F.plainAttrs_list slot_list_append type_list_append (load_var R.e.fn hx v1 ⟨⟨_, hv0, rfl⟩, (fun b e => by cases e; exact ⟨_, hv0, rfl⟩), wpAny_mono (h₁ A env s₀ ρ₀ B ρ oa s ok R) (fun v s₂ q => ?_) fun _ _ x => x⟩)
  obtain ⟨B₂, ρ₂, oa₂, R₂, g, r₂⟩ := q
  obtain ⟨val', v1', a, ha, rfl, vs, ⟨n1, hv⟩, hr⟩ := R₂.e.vars i y _ hn (getF_get hu)
  have e := (v1.later R g).fn v1'
  cases e
  have e1 := hr.length
  simp only [Array.length_toList] at e1
  refine wpAny_list_append_plain ⟨n1, hv⟩ (fun h' hl' sb => ⟨rfl, ?_⟩) (by rw [e1]; exact szOk_line hz)
  have kk : ∀ b o, b ≠ a0 → s₂.heap.get? b = some o → h'.get? b = some o := fun b o hb e => (sb.2 b hb).trans e
  exact ⟨B₂, ρ₂, oa₂, R₂.setV (v₀ := .ol xs) (v' := .ol (xs ++ [x])) (getF_get hu) rfl ha kk (by obtain ⟨_, e⟩ := hl'; rw [e]; rfl) ⟨a0, rfl, rfl, _, hl', by rw [Array.toList_push]; exact hr.snoc r₂⟩, g.le, g.pre, rfl, g.frees.trans (frees_at R₂ (.inr ⟨i, ha⟩) kk)⟩

theorem S_extV {y : Str} {e : Expr} {py ap p pos : Pos} {i : Nat} {ys xs : List PyData} (hl : (ap.endLine == p.line) = true) (hp : plainE e = true) (hx : oddName y = false) (hn : sc.nm[i]? = some (some y)) (h₁ : TE cx n sc e F G (.d (.list ys)) F' G')
    (hu₀ : getF F i = some (.ol xs)) (hu : getF F' i = some (.ol xs)) (hz : szOk (xs.length + ys.length) = true) : TS cx n sc (.Expr (.Call (.Attribute (.Name y py) "extend" ap) [e] [] p) pos) F G .next (setF F' i (some (.ol (xs ++ ys)))) G' := by
  intro A env s₀ ρ₀ B ρ oa s ok R
  obtain ⟨val, v1, a0, ha0, rfl, vs0, ⟨n0, hv0⟩, _⟩ := R.e.vars i y _ hn (getF_get hu₀)
  refine S_meth1 ok R rfl hl hp PySem.F.plainAttrs_list PySem.F.slot_list_extend PySem.F.type_list_extend (load_var R.e.fn hx v1 ⟨⟨_, hv0, rfl⟩, (fun b e => by cases e; exact ⟨_, hv0, rfl⟩), wpAny_mono (h₁ A env s₀ ρ₀ B ρ oa s ok R) (fun v s₂ q => ?_) fun _ _ x => x⟩)
  obtain ⟨B₂, ρ₂, oa₂, R₂, g, r₂⟩ := q
  obtain ⟨val', v1', a, ha, rfl, vs, ⟨n1, hv⟩, hr⟩ := R₂.e.vars i y _ hn (getF_get hu)
  have e := (v1.later R g).fn v1'
  cases e
  have r₂ : Rep cx.prog cx.w B₂ v (.list ys) := r₂
  obtain ⟨b, us, rfl, hb, hr2⟩ := rep_list r₂
  obtain ⟨n2, hb⟩ := plain_mono R₂.g.sub hb
  have e1 := hr.length
  have e2 := hr2.length
  simp only [Array.length_toList] at e1 e2
  have hsz : vs.size + us.size ≤ sizeLine := by rw [e1, e2]; exact szOk_line hz
  refine call_meets PySem.F.slot_list_extend ⟨_, hv, rfl⟩ PySem.F.entry_list_extend (PySem.F.args_list_extend_2 _ _) (AutoSeq1.list_extend_list_list_0 a0 vs n1 b us n2 (extend_door hsz) (Nat.le_trans (Nat.le_add_right _ _) hsz)) ⟨hv, hb, rfl, ?_⟩
  have ho' : (s₂.heap.update a0 (Obj.mapSeq fun x => x ++ us)).PlainList a0 (vs ++ us) := ⟨_, by rw [Heap.get?_update_self _ hv (by rw [mapSeq_app]; rfl), mapSeq_app]⟩
  have kk : ∀ b o, b ≠ a0 → s₂.heap.get? b = some o → (s₂.heap.update a0 (Obj.mapSeq fun x => x ++ us)).get? b = some o := fun b o hb e => ((Heap.SameBut.update ..).2 b hb).trans e
  exact ⟨B₂, ρ₂, oa₂, R₂.setV (tk := s₂.toks) (v₀ := .ol xs) (v' := .ol (xs ++ ys)) (getF_get hu) rfl ha kk (by obtain ⟨_, e⟩ := ho'; rw [e]; rfl) ⟨a0, rfl, rfl, _, ho', by rw [Array.toList_append]; exact hr.append hr2⟩, g.le, g.pre, rfl, g.frees.trans (frees_at R₂ (.inr ⟨i, ha⟩) kk)⟩

theorem repVals_merged {kv more : List (Int × Value)} {kvs q : List (Int × PyData)} (r : RepVals cx B kv kvs) (r2 : RepVals cx B more q) : RepVals cx B (merged kv more) (dmerge kvs q) := by
  unfold merged dmerge
  induction r2 generalizing kv kvs with
  | nil => exact r
  | cons rv _ ih => exact ih (repVals_stored r _ rv)

theorem S_updV {y : Str} {e : Expr} {py ap p pos : Pos} {i : Nat} {ys : List (PyData × PyData)} {q kvs : List (Int × PyData)} (hl : (ap.endLine == p.line) = true) (hp : plainE e = true) (hx : oddName y = false) (hn : sc.nm[i]? = some (some y)) (h₁ : TE cx n sc e F G (.d (.dict ys)) F' G') (hq : asKvs ys = some q)
    (hu₀ : getF F i = some (.od kvs)) (hu : getF F' i = some (.od kvs)) (hz : szOk (kvs.length + q.length) = true) : TS cx n sc (.Expr (.Call (.Attribute (.Name y py) "update" ap) [e] [] p) pos) F G .next (setF F' i (some (.od (dmerge kvs q)))) G' := by
  intro A env s₀ ρ₀ B ρ oa s ok R
  obtain ⟨val, v1, a0, ha0, rfl, kv0, hd0, _⟩ := R.e.vars i y _ hn (getF_get hu₀)
  refine S_meth1 ok R rfl hl hp PySem.F.plainAttrs_dict PySem.F.slot_dict_update PySem.F.type_dict_update (load_var R.e.fn hx v1 ⟨hd0.typeIs, hd0.mapOf.noDict, wpAny_mono (h₁ A env s₀ ρ₀ B ρ oa s ok R) (fun v s₂ p => ?_) fun _ _ x => x⟩)
  obtain ⟨B₂, ρ₂, oa₂, R₂, g, r₂⟩ := p
  obtain ⟨val', v1', a, ha, rfl, kv, hd, hr⟩ := R₂.e.vars i y _ hn (getF_get hu)
  have e := (v1.later R g).fn v1'
  cases e
  have r₂ : Rep cx.prog cx.w B₂ v (.dict ys) := r₂
  obtain ⟨b, more, rfl, hb, hr2⟩ := rep_dict r₂
  have hr2 := repKv_vals hr2 hq
  have own := R₂.e.own i a0 ha
  have hne : a0 ≠ b := by
    rintro rfl
    obtain ⟨_, _, _, e, _⟩ := hb
    rw [own.2.1] at e; cases e
  have hns : b ≠ sysModules := by
    rintro rfl
    obtain ⟨_, _, _, e, _⟩ := hb
    rw [R₂.g.bsys] at e; cases e
  refine call_meetsIn PySem.F.slot_dict_update hd.typeIs PySem.F.entry_dict_update (PySem.F.args_dict_update_2 _ _) (meets_dict_update (intKind cx.prog cx.w) a0 b hne (beq_sys hns))
    ⟨kv, more, hd, hb.keep R₂.g.sub, (by rw [repVals_len hr, repVals_len hr2]; exact szOk_line hz), fun h' hm _ sb => ⟨rfl, ?_⟩⟩
  have kk : ∀ b o, b ≠ a0 → s₂.heap.get? b = some o → h'.get? b = some o := fun b o hb e => (sb.2 b hb).trans e
  exact ⟨B₂, ρ₂, oa₂, R₂.setV (tk := s₂.toks) (v₀ := .od kvs) (v' := .od (dmerge kvs q)) (getF_get hu) rfl ha kk (by obtain ⟨_, _, _, e, _⟩ := hm; rw [e]; rfl) ⟨a0, rfl, rfl, _, hm, repVals_merged hr hr2⟩, g.le, g.pre, rfl, g.frees.trans (frees_at R₂ (.inr ⟨i, ha⟩) kk)⟩

theorem S_pop {x y : Str} {px py ap p pos : Pos} {i j : Nat} {xs : List PyData} {z : PyData} (hl : (ap.endLine == p.line) = true) (hx : oddName y = false) (hn : sc.nm[j]? = some (some y)) (hn2 : sc.nm[i]? = some (some x)) (hk : canSt sc x) (hu : getF F j = some (.ol xs)) (hz : xs.getLast? = some z) (hs : szOk xs.length = true) :
    TS cx n sc (.Assign [.Name x px] (.Call (.Attribute (.Name y py) "pop" ap) [] [] p) pos) F G .next (setF (setF F j (some (.ol xs.dropLast))) i (some (.d z))) G := by
  intro A env s₀ ρ₀ B ρ oa s ok R
  obtain ⟨val, v1, a, ha, rfl, vs, ⟨n0, hv⟩, hr⟩ := R.e.vars j y _ hn (getF_get hu)
  refine wpAny_Assign_Name (MethodCall_ (load_var R.e.fn hx v1 ?_) (eval_mcall rfl hl rfl (by simp))) rfl
  refine getMethod_builtin ⟨_, hv, rfl⟩ PySem.F.plainAttrs_list PySem.F.slot_list_pop PySem.F.type_list_pop (fun b e => by cases e; exact ⟨_, hv, rfl⟩) ?_
  have e1 := hr.length
  simp only [Array.length_toList] at e1
  have hlast : xs[xs.length - 1]? = some z := by rw [← hz, List.getLast?_eq_getElem?]
  obtain ⟨v, hv1, rv⟩ := hr.get hlast
  have hv2 : vs[vs.size - 1]? = some v := by rw [e1, ← Array.getElem?_toList]; exact hv1
  have hpos : 0 < vs.size := by have := (Array.getElem?_eq_some_iff.mp hv2).1; lia
  refine callWith_method0 (call_meets PySem.F.slot_list_pop ⟨_, hv, rfl⟩ PySem.F.entry_list_pop (PySem.F.args_list_pop_1 _) (MeetsSeq.list_pop_last a vs n0 v hv2 (by rw [e1]; exact szOk_line hs)) ⟨hv, ?_⟩)
  have ho' : (s.heap.update a (Obj.mapSeq fun xs => xs.eraseIdxIfInBounds (vs.size - 1))).PlainList a (vs.toList.take (vs.size - 1)).toArray := by
    have e2 : vs.toList.eraseIdx (vs.size - 1) = vs.toList.take (vs.size - 1) := by
      rw [List.eraseIdx_eq_take_drop_succ, List.drop_of_length_le (by rw [Array.length_toList]; lia), List.append_nil]
    exact ⟨_, by rw [Heap.get?_update_self _ hv (by rw [mapSeq_erase _ _ _ (by lia)]; rfl), mapSeq_erase _ _ _ (by lia), e2]⟩
  have kk : ∀ b o, b ≠ a → s.heap.get? b = some o → (s.heap.update a (Obj.mapSeq fun xs => xs.eraseIdxIfInBounds (vs.size - 1))).get? b = some o := fun b o hb e => ((Heap.SameBut.update ..).2 b hb).trans e
  have hd : xs.dropLast = xs.take (vs.size - 1) := by rw [e1, List.dropLast_eq_take]
  have R1 := R.setV (tk := s.toks) (v₀ := .ol xs) (v' := .ol xs.dropLast) (getF_get hu) rfl ha kk (by obtain ⟨_, e⟩ := ho'; rw [e]; rfl) ⟨a, rfl, rfl, _, ho', by rw [hd]; exact hr.take _⟩
  refine store_rel (v := .d z) (o := none) R1 hn2 hk (repV_X (v := .d z) rv) (.inl ⟨rfl, rfl⟩) fun s' R' ke => ⟨B, ρ, _, R', Le.refl B, List.prefix_refl ρ, rfl, fun d ob f h0 hd => ?_⟩
  have hda : d ≠ a := by first | exact fun q => f.o j (q ▸ ha) | (rintro rfl; exact f.o j ha)
  exact ⟨ke d ob f.l f.c (kk d ob hda hd), free_store f fun e => by cases e⟩
end
end Mine
namespace Mine
open PySem PySem.W PySem.Calls PyProof.Rows

theorem bindL_other {kindOf : Str → Option NameKind} : ∀ {binds : List (Str × Value)} {m : Str → Option Value} {x : Str}, (∀ p ∈ binds, p.1 ≠ x) → bindL kindOf binds m x = m x
  | [], _, _, _ => rfl
  | (n, v) :: r, m, x, h => by
    unfold bindL
    rw [bindL_other fun p hp => h p (.tail _ hp)]
    split
    · exact if_neg (Ne.symm (h (n, v) (.head _)))
    · rfl
theorem bindL_get {kindOf : Str → Option NameKind} {binds : List (Str × Value)} {m : Str → Option Value} {x : Str} {v : Value} (hn : (binds.map (·.1)).Nodup) (h : (x, v) ∈ binds) (hk : kindOf x = some .local) : bindL kindOf binds m x = some v := by
  induction binds generalizing m with
  | nil => cases h
  | cons p r ih =>
    obtain ⟨n, u⟩ := p
    rw [List.map_cons, List.nodup_cons] at hn
    unfold bindL
    rcases List.mem_cons.mp h with e | h
    · cases e
      rw [bindL_other fun p hp e => hn.1 (List.mem_map.mpr ⟨p, hp, e⟩), if_pos hk]
      exact if_pos rfl
    · exact ih hn.2 h
theorem bindC_other {kindOf : Str → Option NameKind} : ∀ {binds : List (Str × Value)} {m : Str → Option Value} {x : Str}, (∀ p ∈ binds, p.1 ≠ x) → bindC kindOf binds m x = m x
  | [], _, _, _ => rfl
  | (n, v) :: r, m, x, h => by
    unfold bindC
    rw [bindC_other fun p hp => h p (.tail _ hp)]
    split
    · rfl
    · exact if_neg (Ne.symm (h (n, v) (.head _)))
theorem bindC_get {kindOf : Str → Option NameKind} {binds : List (Str × Value)} {m : Str → Option Value} {x : Str} {v : Value} (hn : (binds.map (·.1)).Nodup) (h : (x, v) ∈ binds) (hk : kindOf x = some .cell) : bindC kindOf binds m x = some v := by
  induction binds generalizing m with
  | nil => cases h
  | cons p r ih =>
    obtain ⟨n, u⟩ := p
    rw [List.map_cons, List.nodup_cons] at hn
    unfold bindC
    rcases List.mem_cons.mp h with e | h
    · cases e
      rw [bindC_other fun p hp e => hn.1 (List.mem_map.mpr ⟨p, hp, e⟩), if_neg (by rw [hk]; simp)]
      exact if_pos rfl
    · exact ih hn.2 h

section
variable {cx : Cx} {n : Nat} {sc : Sc} {F F' F₁ F₂ Fb : List (Option V)} {G G' G₁ G₂ : List O} {B B' B'' : Heap} {ρ ρ' ρ'' : List Addr} {env : Env} {oa oa' oa'' : List (Option Addr)} {s₀ s s' : Shared} {ρ₀ : List Addr} {ex : List Addr} {h h' h'' : Heap}

theorem Args'.get {oas vals vs} (a : Args' cx B ρ h oas vals vs) {i : Nat} {v : V} (hv : vs[i]? = some v) : ∃ val, vals[i]? = some val ∧ RepX cx B ρ h (oas.getD i none) val v ∧ v.owned = false := by
  induction a generalizing i with
  | nil => simp at hv
  | cons r o k _ ih =>
    cases i with
    | zero => simp at hv; subst hv; exact ⟨_, rfl, by simpa using r, o⟩
    | succ i => simpa using ih (by simpa using hv)
theorem Args'.own {oas vals vs} (x : Args' cx B ρ h oas vals vs) {i : Nat} {a : Addr} (ha : oas.getD i none = some a) : (h.get? a).isSome ∧ B.get? a = none ∧ cx.base.get? a = none ∧ a ∉ ρ ∧ a ≠ sysModules := by
  induction x generalizing i with
  | nil => simp at ha
  | cons r o k _ ih =>
    cases i with
    | zero => simp at ha; exact k a ha
    | succ i => exact ih (by simpa using ha)
theorem Args'.len {oas vals vs} (x : Args' cx B ρ h oas vals vs) : vals.length = vs.length := by
  induction x with
  | nil => rfl
  | cons _ _ _ _ ih => simp [ih]

theorem GRel.alive (g : GRel cx G B ρ h) {a : Addr} (ha : a ∈ ρ) : (h.get? a).isSome := by
  obtain ⟨i, hi⟩ := List.mem_iff_getElem?.mp ha
  have hl : i < G.length := by rw [g.len]; exact (List.getElem?_eq_some_iff.mp hi).1
  obtain ⟨b, hb, ob⟩ := g.obj i G[i] (List.getElem?_eq_getElem hl)
  rw [hi] at hb; cases hb
  generalize G[i] = o at ob
  cases o with
  | list => obtain ⟨_, ⟨_, e⟩, _⟩ := ob; rw [e]; rfl
  | di => obtain ⟨_, ⟨_, _, _, e, _⟩, _⟩ := ob; rw [e]; rfl
  | ds => obtain ⟨_, ⟨_, _, _, e, _⟩, _⟩ := ob; rw [e]; rfl
  | dt => obtain ⟨_, _, _, _, e, _⟩ := ob; rw [e]; rfl

theorem GRel.fresh (g : GRel cx G B ρ h) {a : Addr} (hl : h.objs.size ≤ a) : B.get? a = none ∧ cx.base.get? a = none ∧ a ∉ ρ ∧ a ≠ sysModules := by
  have hn := get?_big hl
  refine ⟨none_of_keep g.sub hn, none_of_keep g.base hn, fun ha => ?_, ?_⟩
  · have := g.alive ha; rw [hn] at this; cases this
  · rintro rfl
    obtain ⟨o, e⟩ := Option.isSome_iff_exists.mp g.ok.three
    have := Heap.lt_size (g.base _ _ e)
    exact absurd (Nat.lt_of_lt_of_le this hl) (by decide)

/-- what is known of a function's head -/
structure Head (fd : FuncData) (ps ls : List Str) : Prop where
  fn : fd.scope.kind = .function
  gl : fd.globals = mainGlobals
  bl : fd.builtins = builtinsNs
  free : ∀ x : Str, fd.scope.names.lookup x ≠ some .free
  nd : ls.Nodup
  pre : ps <+: ls
  pk : ∀ x ∈ ps, fd.scope.names.lookup x = some .local ∨ fd.scope.names.lookup x = some .cell

noncomputable def scOf (fd : FuncData) (ls : List Str) (B : Heap) : Sc := ⟨fun x => fd.scope.names.lookup x, ls.map some, B⟩

theorem enter {fd : FuncData} {ps ls : List Str} {f : Addr} {oas : List (Option Addr)} {vals : List Value} {s₁ : Shared} (hd : Head fd ps ls) (g : GRel cx G B ρ s.heap)
    (hv : ∀ (i : Nat) (v : V), F[i]? = some (some v) → ∃ val, vals[i]? = some val ∧ RepX cx B ρ s.heap (oas.getD i none) val v ∧ v.owned = false)
    (ha : ∀ (i : Nat) (a : Addr), oas.getD i none = some a → (s.heap.get? a).isSome ∧ B.get? a = none ∧ cx.base.get? a = none ∧ a ∉ ρ ∧ a ≠ sysModules) (hlen : vals.length = ps.length)
    (hsame : ∃ h tk, s = { s₀ with heap := h, toks := tk }) (hk0 : ∀ b o, s₀.heap.get? b = some o → s.heap.get? b = some o)
    (x : InCallC s (callEnvC fd s.heap.objs.size f).locals (bindL (callEnvC fd s.heap.objs.size f).kindOf (ps.zip vals) fun _ => none) (callEnvC fd s.heap.objs.size f).cells (bindC (callEnvC fd s.heap.objs.size f).kindOf (ps.zip vals) fun _ => none) s₁) :
    Rel cx (scOf fd ls B) (callEnvC fd s.heap.objs.size f) s₀ ρ F G B ρ oas s₁ := by
  obtain ⟨h0, t0, e0⟩ := hsame
  obtain ⟨h1, t1, e1⟩ := x.toInCall.same
  have keep := x.toInCall.keep
  have hL : s.heap.objs.size ≤ (callEnvC fd s.heap.objs.size f).locals := x.toInCall.fresh
  have cellsF : ∀ y c, (callEnvC fd s.heap.objs.size f).cells.lookup y = some c → (callEnvC fd s.heap.objs.size f).locals < c := fun y c hc => x.above y c (mem_of_lookup hc)
  have out : ∀ a, (s.heap.get? a).isSome → a < s.heap.objs.size := fun a h => by obtain ⟨o, e⟩ := Option.isSome_iff_exists.mp h; exact Heap.lt_size e
  have pnd : ps.Nodup := hd.pre.sublist.nodup hd.nd
  have znd : ((ps.zip vals).map (·.1)).Nodup := by
    rw [List.map_fst_zip (by lia)]; exact pnd
  refine { same := ⟨h1, t1, by rw [e1, e0]⟩, keep := fun b o _ e => keep b o (hk0 b o e), pre := List.prefix_refl ρ, newR := fun a h => .inl h, nB := fun b _ h _ => h, g := g.keep keep, e := ?_ }
  refine { fn := hd.fn, gl := hd.gl, bl := hd.bl, kinds := ?_, ns := ⟨_, x.toInCall.ns⟩, lout := ?_, cell := ?_, hasC := ?_, inj := ?_, nmInj := ?_, vars := ?_, own := ?_, ownI := ?_ }
  · intro y kk h
    have h : fd.scope.names.lookup y = some kk := h
    cases kk <;> first | exact h | exact .inr h
  · have f := g.fresh hL
    exact ⟨f.1, f.2.1, f.2.2.1, none_of_keep hk0 (get?_big hL)⟩
  · intro y c hc
    have hlt := cellsF y c hc
    have hle := Nat.le_trans hL (Nat.le_of_lt hlt)
    have f := g.fresh hle
    exact ⟨⟨_, x.cell y c hc⟩, f.1, f.2.1, f.2.2.1, Nat.ne_of_gt hlt, fun _ => none_of_keep hk0 (get?_big hle)⟩
  · intro y hy
    have hy : fd.scope.names.lookup y = some .cell ∨ fd.scope.names.lookup y = some .free := hy
    rcases hy with hy | hy
    · exact lookup_some_of_mem (cellsFrom_has (.inl (mem_of_lookup hy)))
    · exact absurd hy (hd.free y)
  · intro y z c hy hz
    exact name_of_addr x.apart (mem_of_lookup hy) (mem_of_lookup hz)
  · intro i j y hi hj
    have hi : (ls.map some)[i]? = some (some y) := hi
    have hj : (ls.map some)[j]? = some (some y) := hj
    rw [List.getElem?_map, Option.map_eq_some_iff] at hi hj
    obtain ⟨_, hi, e1⟩ := hi
    obtain ⟨_, hj, e⟩ := hj
    cases e1; cases e
    exact (List.getElem?_inj (List.getElem?_eq_some_iff.mp hi).1 hd.nd).mp (hi.trans hj.symm)
  · intro i y v hi hF
    obtain ⟨val, h1, h2, _⟩ := hv i v hF
    have hi : (ls.map some)[i]? = some (some y) := hi
    rw [List.getElem?_map, Option.map_eq_some_iff] at hi
    obtain ⟨_, hi, e⟩ := hi
    cases e
    have hip : ps[i]? = some y := by
      obtain ⟨t, rfl⟩ := hd.pre
      have hl : i < ps.length := by rw [← hlen]; exact (List.getElem?_eq_some_iff.mp h1).1
      rw [List.getElem?_append_left hl] at hi; exact hi
    have hz : (y, val) ∈ ps.zip vals := List.mem_of_getElem? (i := i) (by rw [List.getElem?_zip_eq_some]; exact ⟨hip, h1⟩)
    refine ⟨val, ?_, h2.mono (Le.refl B) (List.prefix_refl ρ) fun _ _ ob e => keep _ ob e⟩
    rcases hd.pk y (List.mem_of_getElem? hip) with hk | hk
    · exact .inl ⟨hk, _, x.toInCall.ns, bindL_get znd hz hk⟩
    · obtain ⟨c, hc⟩ := Option.isSome_iff_exists.mp (lookup_some_of_mem (cellsFrom_has (n := s.heap.objs.size + 1) (acc := []) (.inl (mem_of_lookup hk))))
      refine .inr ⟨.inl hk, c, hc, ?_⟩
      have := x.cell y c hc
      rw [bindC_get znd hz hk] at this; exact this
  · intro i a hi
    obtain ⟨a0, a1, a2, a3, a4⟩ := ha i a hi
    obtain ⟨o, ho⟩ := Option.isSome_iff_exists.mp a0
    have hlt := out a a0
    exact ⟨by rw [keep a o ho]; rfl, a1, a2, a3, Nat.ne_of_lt (Nat.lt_of_lt_of_le hlt hL), fun y c hc => Nat.ne_of_gt (Nat.lt_trans (Nat.lt_of_lt_of_le hlt hL) (cellsF y c hc)), a4⟩
  · intro i v a hF ho
    obtain ⟨_, _, _, h3⟩ := hv i v hF
    rw [h3] at ho; cases ho

/-- a function of the program, as the fragment holds it -/
structure FnAt (cx : Cx) (f : Addr) (fd : FuncData) (ps ls : List Str) (body : List Stmt) : Prop where
  at_ : ∃ o, cx.K.lookup f = some o ∧ o.data = .func fd
  code : codeIn cx.K fd.code fd.qualname = true
  body : fd.body = .stmts body
  clo : fd.closure = []
  bind : ∀ vals : List Value, vals.length = ps.length → bindArgs fd ⟨vals, []⟩ = pure (ps.zip vals)
  co : fd.scope.isCoroutine = false
  gen : fd.scope.isGenerator = false
  head : Head fd ps ls

/-- a call of it -/
theorem call_fn {f : Addr} {fd : FuncData} {ps ls : List Str} {body : List Stmt} (k : FnAt cx f fd ps ls body) {A : Around} {oas : List (Option Addr)} {vals : List Value} (ok : AOk (n + 1) A) (g : GRel cx G B ρ s.heap)
    (hv : ∀ (i : Nat) (v : V), F[i]? = some (some v) → ∃ val, vals[i]? = some val ∧ RepX cx B ρ s.heap (oas.getD i none) val v ∧ v.owned = false)
    (ha : ∀ (i : Nat) (a : Addr), oas.getD i none = some a → (s.heap.get? a).isSome ∧ B.get? a = none ∧ cx.base.get? a = none ∧ a ∉ ρ ∧ a ≠ sysModules) (hlen : vals.length = ps.length)
    (hsame : ∃ h tk, s = { s₀ with heap := h, toks := tk }) (hk0 : ∀ b o, s₀.heap.get? b = some o → s.heap.get? b = some o) {R : Result → Shared → Prop}
    (h : ∀ A' env s₁, AOk n A' → env = callEnvC fd s.heap.objs.size f → Rel cx (scOf fd ls B) env s₀ ρ F G B ρ oas s₁ → (∀ b o, s.heap.get? b = some o → s₁.heap.get? b = some o) → (∀ (i : Nat) (x : Str) (val : Value), ps[i]? = some x → vals[i]? = some val → VarIs env s₁.heap x val) →
      (∀ a, (s.heap.get? a).isSome → a ≠ env.locals ∧ ∀ y c, env.cells.lookup y = some c → c ≠ a) →
      wpAny (model cx.prog cx.w) A' (execs body env) (fun f s' => R (.ok (.ret (match f with | .ret v => v | _ => .none))) s') (fun _ _ => False) s₁) :
    codeAny (model cx.prog cx.w) A (.call (.ref f) ⟨vals, []⟩) R s := by
  obtain ⟨o, ho, hdat⟩ := k.at_
  have ho' := g.base _ _ (g.ok.inK _ _ ho)
  have pnd : ps.Nodup := k.head.pre.sublist.nodup k.head.nd
  have znd : ((ps.zip vals).map (·.1)).Nodup := by rw [List.map_fst_zip (by lia)]; exact pnd
  refine codeAny_call_cells (by have := ok.dep; lia) ho' hdat (g.ok.lim.keeps g.base) (codeRec_of (Frag.In.keeps g.ok.inK g.base) k.code) k.body (k.bind vals hlen) k.clo (fun x hx => ?_) (fun s₁ x => ?_) k.co k.gen k.head.fn
  · obtain ⟨y, v⟩ := x
    have hy := (List.of_mem_zip hx).1
    rcases k.head.pk y hy with q | q
    · exact .inl q
    · exact .inr ⟨q, lookup_some_of_mem (cellsFrom_has (.inl (mem_of_lookup q)))⟩
  · refine wpAny_mono (h _ _ s₁ (ok.deeper _) rfl (enter k.head g hv ha hlen hsame hk0 x) x.toInCall.keep (fun i y val hy hv => ?_) (fun a hal => ?_)) (fun _ _ p => p) fun _ _ p => p.elim
    · have hz : (y, val) ∈ ps.zip vals := List.mem_of_getElem? (i := i) (by rw [List.getElem?_zip_eq_some]; exact ⟨hy, hv⟩)
      rcases k.head.pk y (List.mem_of_getElem? hy) with hk | hk
      · exact .inl ⟨hk, _, x.toInCall.ns, bindL_get znd hz hk⟩
      · obtain ⟨c, hc⟩ := Option.isSome_iff_exists.mp (lookup_some_of_mem (cellsFrom_has (n := s.heap.objs.size + 1) (acc := []) (.inl (mem_of_lookup hk))))
        refine .inr ⟨.inl hk, c, hc, ?_⟩
        have := x.cell y c hc
        rw [bindC_get znd hz hk] at this; exact this
    · obtain ⟨o, e⟩ := Option.isSome_iff_exists.mp hal
      have hlt := Heap.lt_size e
      have hL := x.toInCall.fresh
      exact ⟨Nat.ne_of_lt (Nat.lt_of_lt_of_le hlt hL), fun y c hc => Nat.ne_of_gt (Nat.lt_trans (Nat.lt_of_lt_of_le hlt hL) (x.above y c (mem_of_lookup hc)))⟩

/-- a function whose body keeps the evaluator's word -/
theorem q_call {f : Addr} {fd : FuncData} {ps ls : List Str} {body : List Stmt} (k : FnAt cx f fd ps ls body) {vs : List V} {v : V} {Fs : Fr'} (hlen : vs.length = ps.length) (hFs : vs.map some ++ List.replicate (ls.length - vs.length) none = Fs)
    (hb : ∀ B, ∃ F', TSs cx n (scOf fd ls B) body Fs G (.ret v) F' G') : CallOk cx (n + 1) f vs G v G' := by
  intro A s ρ B oas vals ok g ha
  subst hFs
  refine call_fn (F := vs.map some ++ List.replicate (ls.length - vs.length) none) k ok g (fun i v hF => ?_) (fun i a => ha.own) (ha.len.trans hlen) ⟨s.heap, s.toks, rfl⟩ (fun _ _ e => e) fun A' env s₁ ok' _ R _ _ _ => ?_
  · rw [List.getElem?_append] at hF
    split at hF
    · rw [List.getElem?_map, Option.map_eq_some_iff] at hF
      obtain ⟨v', hF, e⟩ := hF
      cases e
      exact ha.get hF
    · rw [List.getElem?_replicate] at hF
      split at hF <;> cases hF
  obtain ⟨F', hb⟩ := hb B
  refine wpAny_mono (hb A' env s ρ B ρ oas s₁ ok' R) (fun fw s' q => ?_) fun _ _ x => x
  obtain ⟨B', ρ', oa', R', l, p, ⟨val, rfl, r⟩, _⟩ := q
  exact ⟨val, B', ρ', rfl, R'.g, ⟨R'.same, l, R'.pre, R'.newR, R'.nB, R'.keep⟩, r⟩
end
end Mine
namespace Mine
open PySem PySem.W PySem.Calls PyProof.Rows

/-- a class of the program that makes plain instances -/
structure ClsMk (K : Frag) (C fI : Addr) (name : Str) (fs : List Str) : Prop where
  makes : makesIn K C = true
  init : findIn K (.ref C) "__init__" = some (some (.ref fI))
  fn : typeIn K (.ref fI) = some (.type "function")
  kp : keepIn K (.ref C) = true
  glob : nsIn K mainGlobals name = some (some (.ref C))
  set : findIn K (.ref C) "__setattr__" = some (some (.builtin "object.__setattr__"))
  over : plainOver K C = true
  has : hasDictIn K C = true
  free : ∀ f ∈ fs, takerIn K C f = some none

section
variable {cx : Cx} {n : Nat} {sc : Sc} {F F' F₁ F₂ Fb : List (Option V)} {G G' G₁ G₂ : List O} {B B' B'' : Heap} {ρ ρ' ρ'' : List Addr} {env : Env} {oa oa' oa'' : List (Option Addr)} {s₀ s s' : Shared} {ρ₀ : List Addr} {ex : List Addr} {h h' h'' : Heap}

theorem putL_new {f : Str} {hsh : Int} {key v : Value} : ∀ {es : List DictEntry}, es.any (·.key.isStr f) = false → putL f hsh key v es = es ++ [⟨hsh, key, v⟩]
  | [], _ => rfl
  | e :: r, h => by
    rw [List.any_cons, Bool.or_eq_false_iff] at h
    unfold putL
    rw [h.1]
    simp only [Bool.false_eq_true, if_false, List.cons_append]
    rw [putL_new h.2]
theorem osa_own {A : Around} {K : Frag} {C fI x dx : Addr} {name f : Str} {fs : List Str} {es : List DictEntry} {m : Nat} {tk : Tok} {v : Value} {R : Result → Shared → Prop} {prog : Program} {w : World} (k : ClsMk K C fI name fs) (X : K.In s.heap) (hx : s.heap.get? x = some (instObj C dx)) (hd : s.heap.get? dx = some (dictOf es m))
    (hf : f ∈ fs) (hn : es.any (·.key.isStr f) = false) (hr : es.any (·.refKey) = false) (hz : es.length ≤ 900)
    (q : ∀ h', h'.get? dx = some (dictOf (es ++ [fieldE w.params f s.toks v]) (m + 1)) → Heap.SameBut dx s.heap h' → R (.ok (.ret .none)) { s with heap := h', toks := s.toks + 1 }) :
    codeAny (model prog w) A (.call (.builtin "object.__setattr__") ⟨[.ref x, .str f tk, v], []⟩) R s := by
  have I : InstAt s.heap x (instObj C dx) C (some (dictOf es m)) := ⟨hx, rfl, rfl, hd⟩
  refine osa_open X I k.over (k.free f hf) fun b => ?_
  obtain ⟨cd, hc, hd'⟩ := any_some k.has
  have hput : Obj.putName f (PyData.keyHash w.params f) (.str f s.toks) v (dictOf es m) = dictOf (es ++ [fieldE w.params f s.toks v]) (m + 1) := by
    rw [putName_dict, putL_new hn]
    unfold putN
    rw [hn]; rfl
  refine wpAny_bind (wpAny_pure (wpAny_bind (wpAny_bind (wpAny_loadPart hx (wpAny_bind ((looks_clsIn X hc).here ?_))))))
  rw [hd']
  refine wpAny_pure (a := some dx) (wpAny_bind (wpAny_pure (wpAny_bind ?_)))
  unfold nsSet
  refine wpAny_bind (wpAny_bind (wpAny_askSetting (wpAny_pure (wpAny_bind (wpAny_mkText (wpAny_bind (wpAny_loadPart hd ?_)))))))
  have hdat : (dictOf es m).data = .dict es.toArray m := rfl
  rw [hdat]
  dsimp only
  have c : (!es.toArray.any (·.key.isStr f) && es.toArray.any (·.refKey)) = false := by
    rw [← Array.any_toList, ← Array.any_toList]
    rw [show es.toArray.toList = es from rfl, hr, Bool.and_false]
  rw [aRefKeyMayBeTheName_at, c]
  have hup : (s.heap.update dx (Obj.putName f (PyData.keyHash w.params f) (.str f s.toks) v)).get? dx = some (dictOf (es ++ [fieldE w.params f s.toks v]) (m + 1)) := by
    rw [Heap.get?_update_self _ hd (by rw [hput]; rfl), hput]
  refine wpAny_updatePart hd ?_
  refine wpAny_bind (wpAny_lookBehind hup (pastItsLine_dict (by rw [List.size_toArray, List.length_append, sizeLine_eq]; simp; lia)) ?_)
  exact wpAny_pure (q _ hup (Heap.SameBut.update ..))

/-- x.f = v, at a made thing with a dict of its own -/
theorem setattr_own {A : Around} {E : Value → Shared → Prop} {K : Frag} {C fI x dx : Addr} {name f : Str} {fs : List Str} {es : List DictEntry} {m : Nat} {v : Value} {Q : Unit → Shared → Prop} {prog : Program} {w : World} (k : ClsMk K C fI name fs) (X : K.In s.heap) (hx : s.heap.get? x = some (instObj C dx)) (hd : s.heap.get? dx = some (dictOf es m))
    (hf : f ∈ fs) (hn : es.any (·.key.isStr f) = false) (hr : es.any (·.refKey) = false) (hz : es.length ≤ 900)
    (q : ∀ h', h'.get? dx = some (dictOf (es ++ [fieldE w.params f (s.toks + 1) v]) (m + 1)) → Heap.SameBut dx s.heap h' → Q () { s with heap := h', toks := s.toks + 2 }) :
    wpAny (model prog w) A (setAttr (.ref x) f v) Q E s :=
  set_plain X (od := some (dictOf es m)) ⟨hx, rfl, rfl, hd⟩ k.set (osa_own (s := { s with toks := s.toks + 1 }) k X hx hd hf hn hr hz fun h' a b => q h' a b)

/-- one row of an __init__: self.f = e -/
theorem init_step {A : Around} (ok : AOk n A) (R : Rel cx sc env s₀ ρ₀ F G B ρ oa s) {C fI x dx : Addr} {name f : Str} {fs : List Str} {es : List DictEntry} {m : Nat} {e : Expr} {p1 p2 p3 : Pos} {v : V} (k : ClsMk cx.K C fI name fs) (vs : VarIs env s.heap "self" (.ref x))
    (hx : s.heap.get? x = some (instObj C dx)) (hd : s.heap.get? dx = some (dictOf es m)) (fx : Free cx env B ρ oa x) (fd : Free cx env B ρ oa dx) (h0 : s₀.heap.get? dx = none) (hne : x ≠ dx)
    (hf : f ∈ fs) (hn : es.any (·.key.isStr f) = false) (hr : es.any (·.refKey) = false) (hz : es.length ≤ 900) (hc : isComp e = false) (ht : TW cx n sc e F G v F' G') {Q : Flow → Shared → Prop}
    (q : ∀ s' B' ρ' oa' o val t, Rel cx sc env s₀ ρ₀ F' G' B' ρ' oa' s' → Le B B' → ρ <+: ρ' → RepX cx B' ρ' s'.heap o val v → OwnW cx env s₀.heap B' ρ' oa' s.heap s'.heap o v → VarIs env s'.heap "self" (.ref x) → s'.heap.get? x = some (instObj C dx) →
      s'.heap.get? dx = some (dictOf (es ++ [fieldE cx.w.params f t val]) (m + 1)) → (∀ d ob, d ≠ dx → Free cx env B ρ oa d → s.heap.get? d = some ob → s'.heap.get? d = some ob ∧ Free cx env B' ρ' oa' d) → Free cx env B' ρ' oa' dx → Q .next s') :
    wpAny (model cx.prog cx.w) A (exec (.Assign [.Attribute (.Name "self" p1) f p2] e p3) env) Q (fun _ _ => False) s := by
  refine plainObj_wpAny_Assign_Attribute (wpAny_mono (ht A env s₀ ρ₀ B ρ oa s ok R) (fun val s₁ p => ?_) fun _ _ x => x) (swaps_no hc _ _ _)
  obtain ⟨B₁, ρ₁, oa₁, o, R₁, g, r, ho⟩ := p
  have vs₁ := vs.later R g
  refine load_var R₁.e.fn (by decide) vs₁ ?_
  have hx1 := g.keep x _ fx.r hx
  have hd1 := g.keep dx _ fd.r hd
  have fd1 := fd.later g (by rw [hd]; rfl)
  have ho : OwnW cx env s₀.heap B₁ ρ₁ oa₁ s.heap s₁.heap o v := ho
  refine setattr_own k (Frag.In.keeps R₁.g.ok.inK R₁.g.base) hx1 hd1 hf hn hr hz fun h' hd2 sb => ?_
  have kk : ∀ b o, b ≠ dx → s₁.heap.get? b = some o → h'.get? b = some o := fun b o hb e => (sb.2 b hb).trans e
  have hod : o ≠ some dx := ho.ne hd
  refine q _ B₁ ρ₁ oa₁ o val _ (R₁.setFree fd1 h0 kk) g.le g.pre (r.mono (Le.refl B₁) (List.prefix_refl ρ₁) fun a ha ob e => kk a ob (by first | exact fun q => hod (q ▸ ha) | (rintro rfl; exact hod ha)) e) ?_ (vs₁.keep (fun o e => kk _ o (Ne.symm fd1.l) e) fun c o hc e => kk c o (fd1.c _ c hc) e) (kk x _ hne hx1) hd2 (fun d ob hdd f e => ?_) fd1
  · rcases ho with ho | ⟨a, e, f, h0', h1, h3⟩
    · exact .inl ho
    · obtain ⟨ob, hob⟩ := Option.isSome_iff_exists.mp h1
      exact .inr ⟨a, e, f, h0', by show (h'.get? a).isSome; rw [kk a ob (by first | exact fun q => hod (q ▸ e) | (rintro rfl; exact hod e)) hob]; rfl, h3⟩
  · have e1 := g.keep d ob f.r e
    exact ⟨kk d ob hdd e1, f.later g (by rw [e]; rfl)⟩

/-! growth of what is shared, without an environment -/
theorem GRel.addR (g : GRel cx G B ρ h) {d : Addr} {o : O} (b : B.get? d = none) (b2 : cx.base.get? d = none) (hr : d ∉ ρ) (hs : d ≠ sysModules) (ho : ObjAt cx B h d o) : GRel cx (G ++ [o]) B (ρ ++ [d]) h where
  ok := g.ok
  base := g.base
  sub := g.sub
  nd := List.nodup_append.mpr ⟨g.nd, by simp, by intro a ha b hb; simp at hb; subst hb; rintro rfl; exact hr ha⟩
  out := fun a ha => by
    rcases List.mem_append.mp ha with q | q
    · exact g.out a q
    · simp at q; subst q; exact ⟨b, b2, hs⟩
  bsys := g.bsys
  len := by simp [g.len]
  obj := fun m ob hm => by
    by_cases hl : m < G.length
    · rw [List.getElem?_append_left hl] at hm
      obtain ⟨a, h1, h2⟩ := g.obj m ob hm
      exact ⟨a, pre_get (List.prefix_append ..) h1, h2⟩
    · have e : m = G.length := by
        have := (List.getElem?_eq_some_iff.mp hm).1
        simp at this; lia
      subst e
      simp at hm; subst hm
      exact ⟨d, by rw [g.len]; simp, ho⟩
theorem GRel.freeze (g : GRel cx G B ρ h) {a : Addr} {ob : Obj} (ha : h.get? a = some ob) (hr : a ∉ ρ) (hs : a ≠ sysModules) : ∃ B', Le B B' ∧ B'.get? a = some ob ∧ (∀ b, b ≠ a → B'.get? b = B.get? b) ∧ GRel cx G B' ρ h := by
  obtain ⟨B', l, s', e, r⟩ := ext_B g.sub ha
  exact ⟨B', l, e, r, g.ext l s' (fun b hb => by rw [r b (fun e => hr (e ▸ hb))]; exact (g.out b hb).1) (by rw [r _ (Ne.symm hs)]; exact g.bsys)⟩
end
end Mine
namespace Mine
open PySem PySem.W PySem.Calls PyProof.Rows

section
variable {cx : Cx} {n : Nat} {sc : Sc} {F F' F₁ F₂ Fb : List (Option V)} {G G' G₁ G₂ : List O} {B B' B'' : Heap} {ρ ρ' ρ'' : List Addr} {env : Env} {oa oa' oa'' : List (Option Addr)} {s₀ s s' : Shared} {ρ₀ : List Addr} {ex : List Addr} {h h' h'' : Heap}

theorem AOk.make {A : Around} (x : AOk (n + 1) A) (C : Addr) (args : List Value) : AOk n (A.under (.builtin "type.__call__" ⟨.ref C :: args, []⟩)) :=
  ⟨x.hh, by have := x.dep; show A.depth + 1 + n < _; lia, by have := x.un; show A.units + 1 + 10 * n + 200 < _; lia⟩

/-- a class is called; its __init__ runs -/
theorem call_cls {A : Around} {C fI : Addr} {name : Str} {fs : List Str} (k : ClsMk cx.K C fI name fs) (X : cx.K.In s.heap) {args : List Value} {Q : Value → Shared → Prop}
    (h : codeAny (model cx.prog cx.w) (A.under (.builtin "type.__call__" ⟨.ref C :: args, []⟩)) (.call (.ref fI) ⟨.ref (s.heap.objs.size + 1) :: args, []⟩) (fun r s' => r = .ok (.ret .none) ∧ Q (.ref (s.heap.objs.size + 1)) s') { s with heap := (s.heap.push (dictOf [] 0)).push (instObj C s.heap.objs.size) }) :
    wpAny (model cx.prog cx.w) A (call (.ref C) args) Q (fun _ _ => False) s := by
  obtain ⟨hh, g, d, t, os⟩ := s
  refine wpAny_call (make_core (makes_of X k.makes) (looks_findIn X k.init) (fun self => bind_fn X self k.fn) (.inl rfl) ?_)
  exact codeAny_mono h fun r s' ⟨e, q⟩ => by subst e; exact ⟨rfl, q⟩

/-- the self argument of an __init__, nothing known -/
theorem init_args {x : Addr} {vals : List Value} {vs : List V} (hv : ∀ (i : Nat) (v : V), vs[i]? = some v → ∃ val, vals[i]? = some val ∧ RepV cx B ρ val v) :
    ∀ (i : Nat) (v : V), (none :: vs.map some : Fr')[i]? = some (some v) → ∃ val, (Value.ref x :: vals)[i]? = some val ∧ RepX cx B ρ h (([] : List (Option Addr)).getD i none) val v ∧ v.owned = false := by
  intro i v hi
  cases i with
  | zero => cases hi
  | succ i =>
    simp only [List.getElem?_cons_succ, List.getElem?_map, Option.map_eq_some_iff] at hi
    obtain ⟨v', h1, e⟩ := hi
    cases e
    obtain ⟨val, h2, r⟩ := hv i v h1
    exact ⟨val, by simpa using h2, repV_X r, repV_owned r⟩

/-- what is held of the objects that an __init__ makes -/
noncomputable def Held (cx : Cx) (env : Env) (s₀ : Heap) (B : Heap) (ρ : List Addr) (oa : List (Option Addr)) (h : Heap) (a : Addr) (o : O) : Prop := Free cx env B ρ oa a ∧ s₀.get? a = none ∧ ObjAt cx B h a o
theorem Held.alive {a o} (x : Held cx env s₀.heap B ρ oa h a o) : ∃ ob, h.get? a = some ob := by
  obtain ⟨_, _, ob⟩ := x
  cases o with
  | list => obtain ⟨_, ⟨_, e⟩, _⟩ := ob; exact ⟨_, e⟩
  | di => obtain ⟨_, ⟨_, _, _, e, _⟩, _⟩ := ob; exact ⟨_, e⟩
  | ds => obtain ⟨_, ⟨_, _, _, e, _⟩, _⟩ := ob; exact ⟨_, e⟩
  | dt => obtain ⟨_, _, _, _, e, _⟩ := ob; exact ⟨_, e⟩
theorem Held.later {a o dx} (x : Held cx env s₀.heap B ρ oa h a o) (l : Le B B') (hne : a ≠ dx) (fr : ∀ d ob, d ≠ dx → Free cx env B ρ oa d → h.get? d = some ob → h'.get? d = some ob ∧ Free cx env B' ρ' oa' d) : Held cx env s₀.heap B' ρ' oa' h' a o := by
  obtain ⟨ob, e⟩ := x.alive
  obtain ⟨e', f⟩ := fr a ob hne x.1 e
  exact ⟨f, x.2.1, x.2.2.mono l fun o' e2 => by rw [e] at e2; cases e2; exact e'⟩
theorem held_of {o : Option Addr} {v : V} {val : Value} {O' : O} (r : RepX cx B ρ h' o val v) (w : OwnW cx env s₀.heap B ρ oa h h' o v) (hv : (∃ xs, v = .ol xs ∧ O' = .list xs) ∨ (v = .od [] ∧ (O' = .di [] ∨ O' = .dt []))) : ∃ a, val = .ref a ∧ Held cx env s₀.heap B ρ oa h' a O' ∧ h.get? a = none := by
  have own : v.owned = true := by rcases hv with ⟨_, rfl, _⟩ | ⟨rfl, _⟩ <;> rfl
  rcases w with ⟨_, e⟩ | ⟨a, rfl, f, h0, h1, h3⟩
  · rw [own] at e; cases e
  · rcases hv with ⟨xs, rfl, rfl⟩ | ⟨rfl, hO⟩
    · obtain ⟨a', e, rfl, hl⟩ := r
      cases e
      exact ⟨a, rfl, ⟨f, h0, hl⟩, h3⟩
    · obtain ⟨a', e, rfl, hd⟩ := r
      cases e
      refine ⟨a, rfl, ⟨f, h0, ?_⟩, h3⟩
      rcases hO with rfl | rfl
      · exact hd
      · obtain ⟨kv, ⟨ob, es, ep, g1, g2, g3, g4, g5, g6⟩, hr⟩ := hd
        cases hr
        have hes : es.toList = [] := by
          generalize es.toList = l at g5
          cases g5; rfl
        exact ⟨ob, es, ep, [], g1, g2, g3, by rw [hes]; rfl, .nil, List.nodup_nil⟩

/-- three made things and their holder with its dict are shared from now on -/
theorem share3 {x dx a1 a2 a3 : Addr} {o1 o2 o3 : O} {ox od : Obj} (R : Rel cx sc env s ρ₀ F G B ρ oa s') (h1 : Held cx env s.heap B ρ oa s'.heap a1 o1) (h2 : Held cx env s.heap B ρ oa s'.heap a2 o2) (h3 : Held cx env s.heap B ρ oa s'.heap a3 o3)
    (n12 : a1 ≠ a2) (n13 : a1 ≠ a3) (n23 : a2 ≠ a3) (hx : s'.heap.get? x = some ox) (hd : s'.heap.get? dx = some od) (fx : Free cx env B ρ oa x) (fd : Free cx env B ρ oa dx) (nx : s.heap.get? x = none) (nd : s.heap.get? dx = none)
    (hxa : x ≠ a1 ∧ x ≠ a2 ∧ x ≠ a3) (hda : dx ≠ a1 ∧ dx ≠ a2 ∧ dx ≠ a3) (hsc : sc.B₀ = B'') (l0 : Le B'' B) :
    ∃ B', GRel cx (G ++ [o1, o2, o3]) B' (ρ ++ [a1, a2, a3]) s'.heap ∧ Cg B'' ρ₀ s B' (ρ ++ [a1, a2, a3]) s' ∧ Le B B' ∧ B'.get? x = some ox ∧ B'.get? dx = some od := by
  have g1 := R.g.addR h1.1.b h1.1.base h1.1.r h1.1.n h1.2.2
  have g2 := g1.addR h2.1.b h2.1.base (by simp; exact ⟨h2.1.r, Ne.symm n12⟩) h2.1.n h2.2.2
  have g3 := g2.addR h3.1.b h3.1.base (by simp; exact ⟨h3.1.r, Ne.symm n13, Ne.symm n23⟩) h3.1.n h3.2.2
  have e1 : G ++ [o1] ++ [o2] ++ [o3] = G ++ [o1, o2, o3] := by simp
  have e2 : ρ ++ [a1] ++ [a2] ++ [a3] = ρ ++ [a1, a2, a3] := by simp
  rw [e1, e2] at g3
  obtain ⟨B1, l1, f1, d1, g4⟩ := g3.freeze hx (by simp; exact ⟨fx.r, hxa.1, hxa.2.1, hxa.2.2⟩) fx.n
  obtain ⟨B2, l2, f2, d2, g5⟩ := g4.freeze hd (by simp; exact ⟨fd.r, hda.1, hda.2.1, hda.2.2⟩) fd.n
  refine ⟨B2, g5, ⟨R.same, l0.trans (l1.trans l2), R.pre.trans (List.prefix_append ..), fun a ha => ?_, fun b hr hb hs => ?_, R.keep⟩, l1.trans l2, l2 _ _ f1, f2⟩
  · rcases List.mem_append.mp ha with q | q
    · exact R.newR a q
    · simp at q
      rcases q with rfl | rfl | rfl
      · exact .inr h1.2.1
      · exact .inr h2.2.1
      · exact .inr h3.2.1
  · rw [d2 b (by first | exact ne_get hs (nd) | exact ne_iss hs (nd) | exact ne_get (nd) hs | (rintro rfl; rw [nd] at hs; cases hs)), d1 b (by first | exact ne_get hs (nx) | exact ne_iss hs (nx) | exact ne_get (nx) hs | (rintro rfl; rw [nx] at hs; cases hs))]
    exact R.nB b hr (by rw [hsc]; exact hb) hs

theorem T_mkC {C fI : Addr} {fd : FuncData} {np p p1 p2 p3 p4 p5 p6 p7 p8 p9 p10 p11 p12 p13 p14 p15 p16 : Pos} {k1 k2} {k3 k4} (hC : cx.cC = C) (k : ClsMk cx.K C fI "Circuit" ["kinds", "parts_now", "known"])
    (fn : FnAt cx fI fd ["self"] ["self"] [.Assign [.Attribute (.Name "self" p1) "kinds" p2] (.List [.Constant (.str "") k1 p3, .Constant (.str "true") k2 p4] p5) p6,
      .Assign [.Attribute (.Name "self" p7) "parts_now" p8] (.List [.Tuple [] k3 p9, .Tuple [] k4 p10] p11) p12, .Assign [.Attribute (.Name "self" p13) "known" p14] (.Dict [] [] p15) p16])
    (hk : sc.kind "Circuit" = some .globalImplicit) :
    TE cx (n + 2) sc (.Call (.Name "Circuit" np) [] [] p) F G (.circ G.length (G.length + 1) (G.length + 2)) F (G ++ [.list [.str "", .str "true"], .list [.tuple [], .tuple []], .dt []]) := by
  intro A env s₀ ρ₀ B ρ oa s ok R
  have X := Frag.In.keeps R.g.ok.inK R.g.base
  refine Call_ (load_glob R hk (by decide) k.glob (callWith_K0 X k.kp ?_))
  refine wpAny_cps fun Q hQ => ?_
  refine call_cls k X ?_
  have hsz : (s.heap.push (dictOf [] 0)).objs.size = s.heap.objs.size + 1 := Heap.size_push ..
  have kk : ∀ b o, s.heap.get? b = some o → ((s.heap.push (dictOf [] 0)).push (instObj C s.heap.objs.size)).get? b = some o := fun b o e => Heap.get?_push_of_some _ (Heap.get?_push_of_some _ e)
  have hd0 : ((s.heap.push (dictOf [] 0)).push (instObj C s.heap.objs.size)).get? s.heap.objs.size = some (dictOf [] 0) := Heap.get?_push_of_some _ (Heap.get?_push_size _ rfl)
  have hx0 : ((s.heap.push (dictOf [] 0)).push (instObj C s.heap.objs.size)).get? (s.heap.objs.size + 1) = some (instObj C s.heap.objs.size) := by rw [← hsz]; exact Heap.get?_push_size _ rfl
  have nx : s.heap.get? (s.heap.objs.size + 1) = none := get?_big (Nat.le_succ s.heap.objs.size)
  have nd := fresh_none s.heap
  generalize hx : s.heap.objs.size + 1 = x at *
  generalize hdx : s.heap.objs.size = dx at *
  have hne : x ≠ dx := by rw [← hx]; exact Nat.succ_ne_self _
  refine call_fn (s₀ := s) (F := none :: ([] : List V).map some) (oas := []) fn (ok.make C []) (R.g.keep kk) (init_args (vals := []) fun i v h => by simp at h) (fun i a h => by simp at h) rfl ⟨(s.heap.push (dictOf [] 0)).push (instObj C dx), s.toks, rfl⟩ kk fun A' env' s₁ ok' _ R₁ k1' vself hout => ?_
  have hx1 := k1' _ _ hx0
  have hd1 := k1' _ _ hd0
  have fx : Free cx env' B ρ [] x := by
    have f := R.g.fresh (a := x) (by rw [hdx, ← hx]; exact Nat.le_succ _)
    have o := hout x (by show (((s.heap.push (dictOf [] 0)).push (instObj C dx)).get? x).isSome; rw [hx0]; rfl)
    exact ⟨f.1, f.2.1, f.2.2.1, fun i e => by simp at e, o.1, o.2, f.2.2.2⟩
  have fdx : Free cx env' B ρ [] dx := by
    have f := R.g.fresh (a := dx) (Nat.le_of_eq hdx)
    have o := hout dx (by show (((s.heap.push (dictOf [] 0)).push (instObj C dx)).get? dx).isSome; rw [hd0]; rfl)
    exact ⟨f.1, f.2.1, f.2.2.1, fun i e => by simp at e, o.1, o.2, f.2.2.2⟩
  have vs := vself 0 "self" (.ref x) rfl rfl
  have t1 : TW cx n (scOf fd ["self"] B) (.List [.Constant (.str "") k1 p3, .Constant (.str "true") k2 p4] p5) [none] G (.ol [.str "", .str "true"]) [none] G := (TO_lst (TL_cons rfl (T_str _ _ _) (TL_cons rfl (T_str _ _ _) TL_nil)) (by rw [sizeLine_eq]; simp)).tw
  have t2 : TW cx n (scOf fd ["self"] B) (.List [.Tuple [] k3 p9, .Tuple [] k4 p10] p11) [none] G (.ol [.tuple [], .tuple []]) [none] G := (TO_lst (TL_cons rfl (T_tup TL_nil (Nat.zero_le _)) (TL_cons rfl (T_tup TL_nil (Nat.zero_le _)) TL_nil)) (by rw [sizeLine_eq]; simp)).tw
  have t3 : TW cx n (scOf fd ["self"] B) (.Dict [] [] p15) [none] G (.od []) [none] G := TO_dict0.tw
  refine wpAny_execs_cons (init_step ok' R₁ k vs hx1 hd1 fx fdx nd hne (by simp) rfl rfl (by simp) rfl t1 fun s2 B2 ρ2 oa2 o2 val1 tk1 R2 l2 pr2 r2 w2 vs2 hx2 hd2 fr2 fd2 => ?_)
  obtain ⟨a1, rfl, H1, n1⟩ := held_of r2 w2 (O' := .list [.str "", .str "true"]) (.inl ⟨_, rfl, rfl⟩)
  have fx2 := (fr2 x _ hne fx hx1).2
  refine wpAny_execs_cons (init_step ok' R2 k vs2 hx2 hd2 fx2 fd2 nd hne (by simp) rfl rfl (by simp) rfl t2 fun s3 B3 ρ3 oa3 o3 val2 tk2 R3 l3 pr3 r3 w3 vs3 hx3 hd3 fr3 fd3 => ?_)
  obtain ⟨a2, rfl, H2, n2⟩ := held_of r3 w3 (O' := .list [.tuple [], .tuple []]) (.inl ⟨_, rfl, rfl⟩)
  have fx3 := (fr3 x _ hne fx2 hx2).2
  have d1 : a1 ≠ dx := (ne_get hd1 n1).symm
  have H1' := H1.later l3 d1 fr3
  have n12 : a1 ≠ a2 := by obtain ⟨_, e⟩ := H1.alive; exact ne_get e n2
  refine wpAny_execs_cons (init_step ok' R3 k vs3 hx3 hd3 fx3 fd3 nd hne (by simp) rfl rfl (by simp) rfl t3 fun s4 B4 ρ4 oa4 o4 val3 tk3 R4 l4 pr4 r4 w4 vs4 hx4 hd4 fr4 fd4 => ?_)
  obtain ⟨a3, rfl, H3, n3⟩ := held_of r4 w4 (O' := .dt []) (.inr ⟨rfl, .inr rfl⟩)
  have fx4 := (fr4 x _ hne fx3 hx3).2
  have d2 : a2 ≠ dx := (ne_get hd2 n2).symm
  have H1'' := H1'.later l4 d1 fr4
  have H2' := H2.later l4 d2 fr4
  have n13 : a1 ≠ a3 := by obtain ⟨_, e⟩ := H1'.alive; exact ne_get e n3
  have n23 : a2 ≠ a3 := by obtain ⟨_, e⟩ := H2.alive; exact ne_get e n3
  have d3 : a3 ≠ dx := (ne_get hd3 n3).symm
  have x1 : x ≠ a1 := ne_get hx1 n1
  have x2 : x ≠ a2 := ne_get hx2 n2
  have x3 : x ≠ a3 := ne_get hx3 n3
  refine wpAny_execs_nil ⟨rfl, ?_⟩
  obtain ⟨B', g, cg, lB, fX, fD⟩ := share3 (B'' := B) R4 H1'' H2' H3 n12 n13 n23 hx4 hd4 fx4 fd4 nx nd ⟨x1, x2, x3⟩ ⟨Ne.symm d1, Ne.symm d2, Ne.symm d3⟩ rfl (l2.trans (l3.trans l4))
  obtain ⟨R', gr⟩ := R.called g cg
  refine hQ _ _ ⟨B', _, oa, R', gr, .mk (ak := a1) (ap := a2) (am := a3) ?_ ?_ ?_ (by rw [hC]; exact fX) fD⟩
  · rw [R4.g.len]; simp
  · rw [R4.g.len]; simp
  · rw [R4.g.len]; simp

theorem T_mkT {C fI : Addr} {fd : FuncData} {np p p1 p2 p3 p4 p5 p6 p7 p8 p9 p10 p11 p12 p13 p14 p15 p16 p17 p18 p19 p20 p21 p22 : Pos} {e1 e2 : Expr} {kc pc mc : Nat} {xs : List PyData} (hC : cx.cT = C) (k : ClsMk cx.K C fI "Counter" ["circuit", "inputs", "known", "plans", "supports"]) 
    (fn : FnAt cx fI fd ["self", "circuit", "inputs"] ["self", "circuit", "inputs"] [.Assign [.Attribute (.Name "self" p1) "circuit" p2] (.Name "circuit" p3) p4,
      .Assign [.Attribute (.Name "self" p5) "inputs" p6] (.Call (.Name "tuple" p7) [.Name "inputs" p8] [] p9) p10,
      .Assign [.Attribute (.Name "self" p11) "known" p12] (.Dict [] [] p13) p14, .Assign [.Attribute (.Name "self" p15) "plans" p16] (.Dict [] [] p17) p18, .Assign [.Attribute (.Name "self" p19) "supports" p20] (.Dict [] [] p21) p22])
    (hk : sc.kind "Counter" = some .globalImplicit) (hp1 : plainE e1 = true) (hp2 : plainE e2 = true) (h₁ : TE cx (n + 2) sc e1 F G (.circ kc pc mc) F₁ G₁) (h₂ : TE cx (n + 2) sc e2 F₁ G₁ (.d (.list xs)) F' G')
    (htup : ∀ B, Blt cx (scOf fd ["self", "circuit", "inputs"] B) "tuple" (.type "tuple")) (hz : szOk xs.length = true) :
    TE cx (n + 2) sc (.Call (.Name "Counter" np) [e1, e2] [] p) F G (.ctr kc pc mc xs G'.length (G'.length + 1) (G'.length + 2)) F' (G' ++ [.di [], .di [], .di []]) := by
  intro A env s₀ ρ₀ B₀ ρ₁ oa₀ sS ok RS
  refine Call_ (load_glob RS hk (by decide) k.glob (callWith_K RS.g.ok.inK k.kp (args_cons (wpAny_mono (two h₁ h₂ ok RS (X := fun a b s₂ => cx.K.In s₂.heap ∧ wpAny (model cx.prog cx.w) A (call (.ref C) [a, b]) (PostE cx sc env s₀ ρ₀ F' (G' ++ [O.di [], O.di [], O.di []]) B₀ ρ₁ oa₀ sS.heap (.ctr kc pc mc xs G'.length (G'.length + 1) (G'.length + 2))) (fun _ _ => False) s₂)
    fun va vb s B ρ oa R gS ra rb => ?_) (fun a s₁ h => args_cons (wpAny_mono h (fun b s₂ h => args_nil h) fun _ _ x => x) (star1 hp2)) fun _ _ x => x) (star_plain hp1)) (star_plain hp1) (by rw [star1 hp2]; rfl)))
  have X := Frag.In.keeps R.g.ok.inK R.g.base
  refine ⟨X, wpAny_mono ?_ (fun v s' p => PostE.after gS p) fun _ _ x => x⟩
  refine wpAny_cps fun Q hQ => ?_
  refine call_cls k X ?_
  have hsz : (s.heap.push (dictOf [] 0)).objs.size = s.heap.objs.size + 1 := Heap.size_push ..
  have kk : ∀ b o, s.heap.get? b = some o → ((s.heap.push (dictOf [] 0)).push (instObj C s.heap.objs.size)).get? b = some o := fun b o e => Heap.get?_push_of_some _ (Heap.get?_push_of_some _ e)
  have hd0 : ((s.heap.push (dictOf [] 0)).push (instObj C s.heap.objs.size)).get? s.heap.objs.size = some (dictOf [] 0) := Heap.get?_push_of_some _ (Heap.get?_push_size _ rfl)
  have hx0 : ((s.heap.push (dictOf [] 0)).push (instObj C s.heap.objs.size)).get? (s.heap.objs.size + 1) = some (instObj C s.heap.objs.size) := by rw [← hsz]; exact Heap.get?_push_size _ rfl
  have nx : s.heap.get? (s.heap.objs.size + 1) = none := get?_big (Nat.le_succ s.heap.objs.size)
  have nd := fresh_none s.heap
  generalize hx : s.heap.objs.size + 1 = x at *
  generalize hdx : s.heap.objs.size = dx at *
  have hne : x ≠ dx := by rw [← hx]; exact Nat.succ_ne_self _
  refine call_fn (s₀ := s) (F := none :: ([.circ kc pc mc, .d (.list xs)] : List V).map some) (oas := []) fn (ok.make C [va, vb]) (R.g.keep kk) (init_args (vals := [va, vb]) fun i v h => ?_) (fun i a h => by simp at h) rfl ⟨(s.heap.push (dictOf [] 0)).push (instObj C dx), s.toks, rfl⟩ kk fun A' env' s₁ ok' _ R₁ k1' vself hout => ?_
  · match i, h with
    | 0, h => cases h; exact ⟨va, rfl, ra⟩
    | 1, h => cases h; exact ⟨vb, rfl, rb⟩
    | i + 2, h => simp at h
  have hx1 := k1' _ _ hx0
  have hd1 := k1' _ _ hd0
  have fx : Free cx env' B ρ [] x := by
    have f := R.g.fresh (a := x) (by rw [hdx, ← hx]; exact Nat.le_succ _)
    have o := hout x (by show (((s.heap.push (dictOf [] 0)).push (instObj C dx)).get? x).isSome; rw [hx0]; rfl)
    exact ⟨f.1, f.2.1, f.2.2.1, fun i e => by simp at e, o.1, o.2, f.2.2.2⟩
  have fdx : Free cx env' B ρ [] dx := by
    have f := R.g.fresh (a := dx) (Nat.le_of_eq hdx)
    have o := hout dx (by show (((s.heap.push (dictOf [] 0)).push (instObj C dx)).get? dx).isSome; rw [hd0]; rfl)
    exact ⟨f.1, f.2.1, f.2.2.1, fun i e => by simp at e, o.1, o.2, f.2.2.2⟩
  have vs := vself 0 "self" (.ref x) rfl rfl
  have t0 : TW cx (n) (scOf fd ["self", "circuit", "inputs"] B) (.Name "circuit" p3) [none, some (.circ kc pc mc), some (.d (.list xs))] G' (.circ kc pc mc) [none, some (.circ kc pc mc), some (.d (.list xs))] G' := (T_var (i := 1) (by decide) rfl rfl rfl).tw
  have t1 : TW cx (n) (scOf fd ["self", "circuit", "inputs"] B) (.Call (.Name "tuple" p7) [.Name "inputs" p8] [] p9) [none, some (.circ kc pc mc), some (.d (.list xs))] G' (.d (.tuple xs)) [none, some (.circ kc pc mc), some (.d (.list xs))] G' :=
    (T_tuple (htup B) rfl (T_var (i := 2) (by decide) rfl rfl rfl) hz).tw
  have t3 : ∀ q, TW cx (n) (scOf fd ["self", "circuit", "inputs"] B) (.Dict [] [] q) [none, some (.circ kc pc mc), some (.d (.list xs))] G' (.od []) [none, some (.circ kc pc mc), some (.d (.list xs))] G' := fun q => TO_dict0.tw
  refine wpAny_execs_cons (init_step ok' R₁ k vs hx1 hd1 fx fdx nd hne (by simp) rfl rfl (by simp) rfl t0 fun sa Ba ρa oaa oA valA tkA Ra la pra rA wA vsa hxa hda fra fda => ?_)
  have rA : CircIs cx Ba ρa valA kc pc mc := rA
  have fxa := (fra x _ hne fx hx1).2
  refine wpAny_execs_cons (init_step ok' Ra k vsa hxa hda fxa fda nd hne (by simp) rfl rfl (by simp) rfl t1 fun sb Bb ρb oab oB valB tkB Rb lb prb rB wB vsb hxb hdb frb fdb => ?_)
  have rB : Rep cx.prog cx.w Bb valB (.tuple xs) := rB
  have fxb := (frb x _ hne fxa hxa).2
  refine wpAny_execs_cons (init_step ok' Rb k vsb hxb hdb fxb fdb nd hne (by simp) rfl rfl (by simp) rfl (t3 p13) fun s2 B2 ρ2 oa2 o2 val1 tk1 R2 l2 pr2 r2 w2 vs2 hx2 hd2 fr2 fd2 => ?_)
  obtain ⟨a1, rfl, H1, n1⟩ := held_of r2 w2 (O' := .di []) (.inr ⟨rfl, .inl rfl⟩)
  have fx2 := (fr2 x _ hne fxb hxb).2
  refine wpAny_execs_cons (init_step ok' R2 k vs2 hx2 hd2 fx2 fd2 nd hne (by simp) rfl rfl (by simp) rfl (t3 p17) fun s3 B3 ρ3 oa3 o3 val2 tk2 R3 l3 pr3 r3 w3 vs3 hx3 hd3 fr3 fd3 => ?_)
  obtain ⟨a2, rfl, H2, n2⟩ := held_of r3 w3 (O' := .di []) (.inr ⟨rfl, .inl rfl⟩)
  have fx3 := (fr3 x _ hne fx2 hx2).2
  have d1 : a1 ≠ dx := (ne_get hdb n1).symm
  have H1' := H1.later l3 d1 fr3
  have n12 : a1 ≠ a2 := by obtain ⟨_, e⟩ := H1.alive; exact ne_get e n2
  refine wpAny_execs_cons (init_step ok' R3 k vs3 hx3 hd3 fx3 fd3 nd hne (by simp) rfl rfl (by simp) rfl (t3 p21) fun s4 B4 ρ4 oa4 o4 val3 tk3 R4 l4 pr4 r4 w4 vs4 hx4 hd4 fr4 fd4 => ?_)
  obtain ⟨a3, rfl, H3, n3⟩ := held_of r4 w4 (O' := .di []) (.inr ⟨rfl, .inl rfl⟩)
  have fx4 := (fr4 x _ hne fx3 hx3).2
  have d2 : a2 ≠ dx := (ne_get hd2 n2).symm
  have H1'' := H1'.later l4 d1 fr4
  have H2' := H2.later l4 d2 fr4
  have n13 : a1 ≠ a3 := by obtain ⟨_, e⟩ := H1'.alive; exact ne_get e n3
  have n23 : a2 ≠ a3 := by obtain ⟨_, e⟩ := H2.alive; exact ne_get e n3
  have d3 : a3 ≠ dx := (ne_get hd3 n3).symm
  have x1 : x ≠ a1 := ne_get hxb n1
  have x2 : x ≠ a2 := ne_get hx2 n2
  have x3 : x ≠ a3 := ne_get hx3 n3
  refine wpAny_execs_nil ⟨rfl, ?_⟩
  obtain ⟨B', g, cg, lB, fX, fD⟩ := share3 (B'' := B) R4 H1'' H2' H3 n12 n13 n23 hx4 hd4 fx4 fd4 nx nd ⟨x1, x2, x3⟩ ⟨Ne.symm d1, Ne.symm d2, Ne.symm d3⟩ rfl (la.trans (lb.trans (l2.trans (l3.trans l4))))
  obtain ⟨R', gr⟩ := R.called g cg
  have pr : ρa <+: ρ4 ++ [a1, a2, a3] := prb.trans (pr2.trans (pr3.trans (pr4.trans (List.prefix_append ..))))
  refine hQ _ _ ⟨B', _, oa, R', gr, .mk (ak := a1) (ap := a2) (as := a3) ?_ ?_ ?_ (rA.mono (lb.trans (l2.trans (l3.trans (l4.trans lB)))) pr) (rB.mono (l2.trans (l3.trans (l4.trans lB)))) (by rw [hC]; exact fX) fD⟩
  · rw [R4.g.len]; simp
  · rw [R4.g.len]; simp
  · rw [R4.g.len]; simp
end
end Mine
namespace Mine
open PySem PySem.W PySem.Calls PyProof.Rows
section
variable {cx : Cx} {n : Nat} {sc : Sc} {F F' F₁ F₂ : Fr'} {G G' G₁ G₂ : List O}
/-! names -/
noncomputable def vix (sc : Sc) (x : Str) : Option Nat := if oddName x then none else sc.nm.findIdx? (· == some x)
theorem vix_ok {x : Str} {i : Nat} (h : vix sc x = some i) : oddName x = false ∧ sc.nm[i]? = some (some x) := by
  unfold vix at h
  split at h
  · cases h
  · rename_i ho
    obtain ⟨h1, h2, _⟩ := List.findIdx?_eq_some_iff_getElem.mp h
    exact ⟨by simpa using ho, by rw [List.getElem?_eq_getElem h1]; exact congrArg some (beq_iff_eq.mp h2)⟩
theorem q_var {i : Nat} {x : Str} {pos : Pos} {v : V} (h : vix sc x = some i) (hv : getF F i = some v) (p : v.plain = true) : TE cx n sc (.Name x pos) F G v F G := T_var (vix_ok h).1 (vix_ok h).2 hv p
theorem q_own {i : Nat} {x : Str} {pos : Pos} {v u : V} (h : vix sc x = some i) (hv : getF F i = some v) (ow : v.owned = true) (hm : moved v = some u) : TE cx n sc (.Name x pos) F G u (setF F i none) G := T_varOwn (vix_ok h).1 (vix_ok h).2 hv ow hm
/-- a name's reading: an owned thing is moved -/
noncomputable def mvF (F : Fr') (i : Nat) : V → Option (V × Fr')
  | .ol xs => some (.d (.list xs), setF F i none)
  | .od kvs => some (.d (dpack kvs), setF F i none)
  | .rl _ | .rd _ => none
  | v => some (v, F)
theorem q_name {i : Nat} {x : Str} {pos : Pos} {v u : V} (h : vix sc x = some i) (hv : getF F i = some v) (hm : mvF F i v = some (u, F')) : TE cx n sc (.Name x pos) F G u F' G := by
  cases v <;> (first | (cases hm; exact q_var h hv rfl) | (cases hm; exact q_own h hv rfl rfl) | (cases hm))
theorem fldOf_ok {f : Str} {g : Fld} (h : fldOf f = some g) : f = fldStr g := by
  unfold fldOf at h
  repeat (split at h; · (rename_i e; cases h; exact beq_iff_eq.mp e))
  cases h
theorem q_attr {e : Expr} {s : Str} {f : Fld} {p : Pos} {u z : V} (hf : fldOf s = some f) (hb : attrBase e = true) (h : TE cx n sc e F G u F' G') (hz : fieldOf f u = some z) : TE cx n sc (.Attribute e s p) F G z F' G' := by
  rw [fldOf_ok hf]; exact T_attr hb h hz
/-! tests and comparisons, their outcome told -/
theorem q_lt {l r : Expr} {p : Pos} {a b : Int} {z : Bool} (h₁ : TE cx n sc l F G (.d (.int a)) F₁ G₁) (h₂ : TE cx n sc r F₁ G₁ (.d (.int b)) F' G') (hz : decide (a < b) = z) (hm : plainE r = true) : TE cx n sc (.Compare l [.Lt] [r] p) F G (.d (.bool z)) F' G' := hz ▸ T_lt h₁ h₂ hm
theorem q_gt {l r : Expr} {p : Pos} {a b : Int} {z : Bool} (h₁ : TE cx n sc l F G (.d (.int a)) F₁ G₁) (h₂ : TE cx n sc r F₁ G₁ (.d (.int b)) F' G') (hz : decide (b < a) = z) (hm : plainE r = true) : TE cx n sc (.Compare l [.Gt] [r] p) F G (.d (.bool z)) F' G' := hz ▸ T_gt h₁ h₂ hm
theorem q_eq {l r : Expr} {p : Pos} {x y : PyData} {z : Bool} (h₁ : TE cx n sc l F G (.d x) F₁ G₁) (h₂ : TE cx n sc r F₁ G₁ (.d y) F' G') (hz : eqD x y = some z) (hm : plainE r = true) : TE cx n sc (.Compare l [.Eq] [r] p) F G (.d (.bool z)) F' G' := by
  have := T_eq (ng := false) (p := p) h₁ h₂ hz hm
  cases z <;> exact this
theorem q_ne {l r : Expr} {p : Pos} {x y : PyData} {z : Bool} (h₁ : TE cx n sc l F G (.d x) F₁ G₁) (h₂ : TE cx n sc r F₁ G₁ (.d y) F' G') (hz : eqD x y = some (!z)) (hm : plainE r = true) : TE cx n sc (.Compare l [.NotEq] [r] p) F G (.d (.bool z)) F' G' := by
  have := T_eq (ng := true) (p := p) h₁ h₂ hz hm
  cases z <;> exact this
theorem q_nev {x : Str} {i : Nat} {r : Expr} {pos p : Pos} {u : V} {a y : PyData} {z : Bool} (h : vix sc x = some i) (h₂ : TE cx n sc r F G (.d y) F' G') (hu : getF F' i = some u) (hi : ∃ u₀, getF F i = some u₀)
    (ha : (moved u).bind asD = some a) (hz : eqD a y = some (!z)) (hm : plainE r = true) : TE cx n sc (.Compare (.Name x pos) [.NotEq] [r] p) F G (.d (.bool z)) F' G' := by
  have := T_eqv (ng := true) (p := p) (pos := pos) (vix_ok h).1 (vix_ok h).2 h₂ hu hi ha hz hm
  cases z <;> exact this
theorem q_in {l r : Expr} {p : Pos} {x : PyData} {u : V} {z : Bool} (h₁ : TE cx n sc l F G (.d x) F₁ G₁) (h₂ : TE cx n sc r F₁ G₁ u F' G') (hz : inG G' x u = some z) (hm : plainE r = true) : TE cx n sc (.Compare l [.In] [r] p) F G (.d (.bool z)) F' G' := by
  have := T_isin (ng := false) (p := p) h₁ h₂ hz hm
  cases z <;> exact this
theorem q_nin {l r : Expr} {p : Pos} {x : PyData} {u : V} {z : Bool} (h₁ : TE cx n sc l F G (.d x) F₁ G₁) (h₂ : TE cx n sc r F₁ G₁ u F' G') (hz : inG G' x u = some (!z)) (hm : plainE r = true) : TE cx n sc (.Compare l [.NotIn] [r] p) F G (.d (.bool z)) F' G' := by
  have := T_isin (ng := true) (p := p) h₁ h₂ hz hm
  cases z <;> exact this
theorem q_inv {l : Expr} {j : Nat} {y : Str} {pos p : Pos} {x : PyData} {u : V} {z : Bool} (h : vix sc y = some j) (h₁ : TE cx n sc l F G (.d x) F' G') (hu : getF F' j = some u) (hz : inG G' x u = some z) : TE cx n sc (.Compare l [.In] [.Name y pos] p) F G (.d (.bool z)) F' G' := by
  have := T_isinv (ng := false) (p := p) (pos := pos) (vix_ok h).1 (vix_ok h).2 h₁ hu hz
  cases z <;> exact this
theorem q_ninv {l : Expr} {j : Nat} {y : Str} {pos p : Pos} {x : PyData} {u : V} {z : Bool} (h : vix sc y = some j) (h₁ : TE cx n sc l F G (.d x) F' G') (hu : getF F' j = some u) (hz : inG G' x u = some (!z)) : TE cx n sc (.Compare l [.NotIn] [.Name y pos] p) F G (.d (.bool z)) F' G' := by
  have := T_isinv (ng := true) (p := p) (pos := pos) (vix_ok h).1 (vix_ok h).2 h₁ hu hz
  cases z <;> exact this
theorem b_and_t {a b : Expr} {p : Pos} {d : Bool} (h₁ : TB cx n sc a F G true F₁ G₁) (h₂ : TB cx n sc b F₁ G₁ d F' G') : TB cx n sc (.BoolOp .And [a, b] p) F G d F' G' := B_and h₁ h₂
theorem b_and_f {a b : Expr} {p : Pos} (h₁ : TB cx n sc a F G false F' G') : TB cx n sc (.BoolOp .And [a, b] p) F G false F' G' := B_and h₁ ⟨rfl, rfl, rfl⟩
theorem b_or_f {a b : Expr} {p : Pos} {d : Bool} (h₁ : TB cx n sc a F G false F₁ G₁) (h₂ : TB cx n sc b F₁ G₁ d F' G') : TB cx n sc (.BoolOp .Or [a, b] p) F G d F' G' := B_or h₁ h₂
theorem b_or_t {a b : Expr} {p : Pos} (h₁ : TB cx n sc a F G true F' G') : TB cx n sc (.BoolOp .Or [a, b] p) F G true F' G' := B_or h₁ ⟨rfl, rfl, rfl⟩
theorem q_ite_t {c a b : Expr} {p : Pos} {v : V} (h₁ : TB cx n sc c F G true F₁ G₁) (h₂ : TE cx n sc a F₁ G₁ v F' G') : TE cx n sc (.IfExp c a b p) F G v F' G' := T_ite h₁ h₂
theorem q_ite_f {c a b : Expr} {p : Pos} {v : V} (h₁ : TB cx n sc c F G false F₁ G₁) (h₂ : TE cx n sc b F₁ G₁ v F' G') : TE cx n sc (.IfExp c a b p) F G v F' G' := T_ite h₁ h₂
theorem s_if_t {c : Expr} {a b : List Stmt} {pos : Pos} {fl : Fl} (h₁ : TB cx n sc c F G true F₁ G₁) (h₂ : TSs cx n sc a F₁ G₁ fl F' G') : TS cx n sc (.If c a b pos) F G fl F' G' := S_if h₁ h₂
theorem s_if_f {c : Expr} {a b : List Stmt} {pos : Pos} {fl : Fl} (h₁ : TB cx n sc c F G false F₁ G₁) (h₂ : TSs cx n sc b F₁ G₁ fl F' G') : TS cx n sc (.If c a b pos) F G fl F' G' := S_if h₁ h₂
theorem s_ret {st : Stmt} {r : List Stmt} {v : V} (h₁ : TS cx n sc st F G (.ret v) F' G') : TSs cx n sc (st :: r) F G (.ret v) F' G' := TSs_stop h₁ trivial
theorem s_cnt {st : Stmt} {r : List Stmt} (h₁ : TS cx n sc st F G .cont F' G') : TSs cx n sc (st :: r) F G .cont F' G' := TSs_stop h₁ trivial
/-! places -/
theorem q_idxv {j : Nat} {x : Str} {pos p : Pos} {i : Expr} {u : V} {y z : PyData} (h : vix sc x = some j) (h₂ : TE cx n sc i F G (.d y) F' G') (hu : getF F' j = some u) (hi : ∃ u₀, getF F j = some u₀) (hz : idxG G' y u = some z) (hm : plainE i = true) :
    TE cx n sc (.Subscript (.Name x pos) i p) F G (.d z) F' G' := T_idxv (vix_ok h).1 (vix_ok h).2 h₂ hu hi hz hm
theorem q_to {x : Str} {px p q : Pos} {e : Expr} {i : Int} {xs ys : List PyData} (h₁ : TE cx n sc (.Name x px) F G (.d (.list xs)) F₁ G₁) (h₂ : TE cx n sc e F₁ G₁ (.d (.int i)) F' G') (hz : szOk xs.length = true) (h0 : 0 ≤ i) (hy : xs.take i.toNat = ys) :
    TE cx n sc (.Subscript (.Name x px) (.Slice none (some e) none p) q) F G (.d (.list ys)) F' G' := (T_slice h₁ hz (.inl ⟨i, e, rfl, rfl, h0, h₂, hy.symm⟩)).te rfl
theorem q_from {x : Str} {px p q : Pos} {e : Expr} {i : Int} {xs ys : List PyData} (h₁ : TE cx n sc (.Name x px) F G (.d (.list xs)) F₁ G₁) (h₂ : TE cx n sc e F₁ G₁ (.d (.int i)) F' G') (hz : szOk xs.length = true) (h0 : 0 ≤ i) (hy : xs.drop i.toNat = ys) :
    TE cx n sc (.Subscript (.Name x px) (.Slice (some e) none none p) q) F G (.d (.list ys)) F' G' := (T_slice h₁ hz (.inr ⟨i, e, rfl, rfl, h0, h₂, hy.symm⟩)).te rfl
theorem q_addL {l r : Expr} {p : Pos} {xs ys : List PyData} (h₁ : TE cx n sc l F G (.d (.list xs)) F₁ G₁) (h₂ : TE cx n sc r F₁ G₁ (.d (.list ys)) F' G') (hz : szOk (xs.length + ys.length) = true) :
    TE cx n sc (.BinOp l .Add r p) F G (.d (.list (xs ++ ys))) F' G' := (TO_addL h₁ h₂ hz).te rfl
theorem q_bin {l r : Expr} {o : Operator} {op : Bop} {p : Pos} {a b c : Int} (ho : bopOf o = some op) (h₁ : TE cx n sc l F G (.d (.int a)) F₁ G₁) (h₂ : TE cx n sc r F₁ G₁ (.d (.int b)) F' G') (hc : binI op a b = some c) : TE cx n sc (.BinOp l o r p) F G (.d (.int c)) F' G' := T_binI h₁ h₂ ho hc
theorem q_lst {es : List Expr} {p : Pos} {xs : List PyData} (h : TL cx n sc es F G xs F' G') (hz : xs.length ≤ sizeLine) : TE cx n sc (.List es p) F G (.d (.list xs)) F' G' := (TO_lst h hz).te rfl
/-! calls -/
/-- an argument's lending -/
noncomputable def lend : V → Option V
  | .ol xs => some (.rl xs)
  | .od kvs => some (.rd kvs)
  | v => some v
theorem lend_ro {u u' : V} (h : lend u = some u') : ro u = u' := by cases u <;> (cases h; rfl)
theorem a_var {i : Nat} {x : Str} {pos : Pos} {r : List Expr} {u u' : V} {xs : List V} (h : vix sc x = some i) (h₂ : TA cx n sc r F G xs F' G') (hu : getF F' i = some u) (hi : ∃ u₀, getF F i = some u₀) (he : lend u = some u') : TA cx n sc (.Name x pos :: r) F G (u' :: xs) F' G' :=
  lend_ro he ▸ TA_consv (vix_ok h).1 (vix_ok h).2 h₂ hu hi
theorem q_mc {m : Str} {f : Addr} {ap p : Pos} {o : Expr} {e : Expr} {es : List Expr} {k q t : Nat} {vs : List V} {v : V} (M : MtNm cx cx.cC m f) (h₁ : TE cx n sc o F G (.circ k q t) F₁ G₁) (ha : TA cx n sc (e :: es) F₁ G₁ vs F' G₂) (hc : CallOk cx n f (.circ k q t :: vs) G₂ v G')
    (ho : attrBase o = true) (hl : (ap.endLine == p.line) = true) (hp : (e :: es).all plainE = true) (hn : (e :: es).length < 30) (hm : fldOf m = none) : TE cx n sc (.Call (.Attribute o m ap) (e :: es) [] p) F G v F' G' :=
  T_meth ho hl hp hn hm h₁ (.inl ⟨⟨_, _, _, rfl⟩, M⟩) (.inr ⟨ha, by simp⟩) hc
theorem q_mc0 {m : Str} {f : Addr} {ap p : Pos} {o : Expr} {k q t : Nat} {v : V} (M : MtNm cx cx.cC m f) (h₁ : TE cx n sc o F G (.circ k q t) F' G₁) (hc : CallOk cx n f [.circ k q t] G₁ v G')
    (ho : attrBase o = true) (hl : (ap.endLine == p.line) = true) (hm : fldOf m = none) : TE cx n sc (.Call (.Attribute o m ap) [] [] p) F G v F' G' :=
  T_meth ho hl rfl (by decide) hm h₁ (.inl ⟨⟨_, _, _, rfl⟩, M⟩) (.inl ⟨rfl, rfl, rfl, rfl⟩) hc
theorem q_mt {m : Str} {f : Addr} {ap p : Pos} {o : Expr} {e : Expr} {es : List Expr} {k q t kn pl su : Nat} {inp : List PyData} {vs : List V} {v : V} (M : MtNm cx cx.cT m f) (h₁ : TE cx n sc o F G (.ctr k q t inp kn pl su) F₁ G₁) (ha : TA cx n sc (e :: es) F₁ G₁ vs F' G₂) (hc : CallOk cx n f (.ctr k q t inp kn pl su :: vs) G₂ v G')
    (ho : attrBase o = true) (hl : (ap.endLine == p.line) = true) (hp : (e :: es).all plainE = true) (hn : (e :: es).length < 30) (hm : fldOf m = none) : TE cx n sc (.Call (.Attribute o m ap) (e :: es) [] p) F G v F' G' :=
  T_meth ho hl hp hn hm h₁ (.inr ⟨⟨_, _, _, _, _, _, _, rfl⟩, M⟩) (.inr ⟨ha, by simp⟩) hc
theorem q_fn {x : Str} {f : Addr} {np p : Pos} {e : Expr} {es : List Expr} {vs : List V} {v : V} (b : FnNm cx sc x f) (ha : TA cx n sc (e :: es) F G vs F' G₁) (hc : CallOk cx n f vs G₁ v G') (hp : (e :: es).all plainE = true) : TE cx n sc (.Call (.Name x np) (e :: es) [] p) F G v F' G' :=
  T_call b hp ha (by simp) hc
theorem q_get {j : Nat} {x : Str} {px ap p : Pos} {a b : Expr} {u : V} {kvs : List (Int × PyData)} {i : Int} {y z : PyData} (h : vix sc x = some j) (h₁ : TE cx n sc a F G (.d (.int i)) F₁ G₁) (h₂ : TE cx n sc b F₁ G₁ (.d y) F' G') (hu : getF F' j = some (.rd kvs)) (hi' : getF F j = some (.rd kvs)) (hz : (dget kvs i).getD y = z)
    (hl : (ap.endLine == p.line) = true) (hp1 : plainE a = true) (hp2 : plainE b = true) : TE cx n sc (.Call (.Attribute (.Name x px) "get" ap) [a, b] [] p) F G (.d z) F' G' :=
  hz ▸ T_get (vix_ok h).1 (vix_ok h).2 hl hp1 hp2 h₁ h₂ hu (.inr rfl) hi'
theorem q_lenv {j : Nat} {x : Str} {pos np p : Pos} {u : V} {k : Nat} (b : Blt cx sc "len" (.builtin "len")) (h : vix sc x = some j) (hu : getF F j = some u) (hz : lenG G u = some k) : TE cx n sc (.Call (.Name "len" np) [.Name x pos] [] p) F G (.d (.int k)) F G := T_lenv b (vix_ok h).1 (vix_ok h).2 hu hz
theorem q_sortedv {j : Nat} {x : Str} {pos np p : Pos} {u : V} {is : List Int} {ys : List PyData} (b : Blt cx sc "sorted" (.builtin "sorted")) (h : vix sc x = some j) (hu : getF F j = some u)
    (hs : (∃ xs, (u = .d (.list xs) ∨ u = .ol xs ∨ u = .rl xs) ∧ xs.length < 64 ∧ asInts xs = some is) ∨ (∃ kvs, (u = .od kvs ∨ u = .rd kvs) ∧ kvs.length < 64 ∧ is = kvs.map (·.1))) (hy : (sortI is).map PyData.int = ys) :
    TE cx n sc (.Call (.Name "sorted" np) [.Name x pos] [] p) F G (.d (.list ys)) F G := hy ▸ (TO_sortedv b (vix_ok h).1 (vix_ok h).2 hu hs).te rfl
/-! stores -/
theorem s_asg {x : Str} {px pos : Pos} {e : Expr} {i : Nat} {v : V} (h : vix sc x = some i) (hk : canSt sc x) (hc : isComp e = false) (ht : TE cx n sc e F G v F' G') (hO : setF F' i (some v) = F₂) : TS cx n sc (.Assign [.Name x px] e pos) F G .next F₂ G' := by
  subst hO
  exact S_asg (vix_ok h).2 hk hc ht.tw
theorem s_asgO {x : Str} {px pos : Pos} {e : Expr} {i : Nat} {v : V} (h : vix sc x = some i) (hk : canSt sc x) (hc : isComp e = false) (ht : TO cx n sc e F G v F' G') (hO : setF F' i (some v) = F₂) : TS cx n sc (.Assign [.Name x px] e pos) F G .next F₂ G' := by
  subst hO
  exact S_asg (vix_ok h).2 hk hc ht.tw
theorem s_asg2 {x y : Str} {px py tp tp' pos : Pos} {k k' : Nat} {e₁ e₂ : Expr} {i j : Nat} {v₁ v₂ : V} (hx : vix sc x = some i) (hk : canSt sc x) (hy : vix sc y = some j) (hk2 : canSt sc y) (h₁ : TW cx n sc e₁ F G v₁ F₁ G₁) (h₂ : TW cx n sc e₂ F₁ G₁ v₂ F' G') (hij : i ≠ j)
    (hp1 : plainE e₁ = true) (hp2 : plainE e₂ = true) (hc : [e₁, e₂].all (constantsAlone 8) = false) (hO : setF (setF F' j (some v₂)) i (some v₁) = F₂) : TS cx n sc (.Assign [.Tuple [.Name x px, .Name y py] k tp] (.Tuple [e₁, e₂] k' tp') pos) F G .next F₂ G' := by
  subst hO
  exact S_asg2 (vix_ok hx).2 hk (vix_ok hy).2 hk2 hij hp1 hp2 hc h₁ h₂
theorem s_setV {x : Str} {k e : Expr} {px p pos : Pos} {i : Nat} {j : Int} {z : PyData} {kvs kvs' : List (Int × PyData)} (h : vix sc x = some i) (hc : isComp e = false) (h₁ : TE cx n sc e F G (.d z) F₁ G₁) (h₃ : TE cx n sc k F₁ G₁ (.d (.int j)) F' G') (hu : getF F' i = some (.od kvs)) (hu₁ : getF F₁ i = some (.od kvs)) (hs : szOk kvs.length = true) (hz : dput kvs j z = kvs') (hO : setF F' i (some (.od kvs')) = F₂) :
    TS cx n sc (.Assign [.Subscript (.Name x px) k p] e pos) F G .next F₂ G' := by
  subst hO hz
  exact S_setV hc (vix_ok h).1 (vix_ok h).2 h₁ h₃ hu hu₁ hs
theorem s_appV {y : Str} {e : Expr} {py ap p pos : Pos} {i : Nat} {x : PyData} {xs : List PyData} (h : vix sc y = some i) (h₁ : TE cx n sc e F G (.d x) F' G') (hu₀ : getF F i = some (.ol xs)) (hu : getF F' i = some (.ol xs)) (hz : szOk xs.length = true) (hl : (ap.endLine == p.line) = true) (hp : plainE e = true) (hO : setF F' i (some (.ol (xs ++ [x]))) = F₂) :
    TS cx n sc (.Expr (.Call (.Attribute (.Name y py) "append" ap) [e] [] p) pos) F G .next F₂ G' := by
  subst hO
  exact S_appV hl hp (vix_ok h).1 (vix_ok h).2 h₁ hu₀ hu hz
theorem s_extV {y : Str} {e : Expr} {py ap p pos : Pos} {i : Nat} {ys xs : List PyData} (h : vix sc y = some i) (h₁ : TE cx n sc e F G (.d (.list ys)) F' G') (hu₀ : getF F i = some (.ol xs)) (hu : getF F' i = some (.ol xs)) (hz : szOk (xs.length + ys.length) = true) (hl : (ap.endLine == p.line) = true) (hp : plainE e = true) (hO : setF F' i (some (.ol (xs ++ ys))) = F₂) :
    TS cx n sc (.Expr (.Call (.Attribute (.Name y py) "extend" ap) [e] [] p) pos) F G .next F₂ G' := by
  subst hO
  exact S_extV hl hp (vix_ok h).1 (vix_ok h).2 h₁ hu₀ hu hz
theorem s_updV {y : Str} {e : Expr} {py ap p pos : Pos} {i : Nat} {ys : List (PyData × PyData)} {q kvs : List (Int × PyData)} (h : vix sc y = some i) (h₁ : TE cx n sc e F G (.d (.dict ys)) F' G') (hq : asKvs ys = some q) (hu₀ : getF F i = some (.od kvs)) (hu : getF F' i = some (.od kvs)) (hz : szOk (kvs.length + q.length) = true) (hl : (ap.endLine == p.line) = true) (hp : plainE e = true) (hO : setF F' i (some (.od (dmerge kvs q))) = F₂) :
    TS cx n sc (.Expr (.Call (.Attribute (.Name y py) "update" ap) [e] [] p) pos) F G .next F₂ G' := by
  subst hO
  exact S_updV hl hp (vix_ok h).1 (vix_ok h).2 h₁ hq hu₀ hu hz
theorem s_pop {x y : Str} {px py ap p pos : Pos} {i j : Nat} {xs ys : List PyData} {z : PyData} (hy : vix sc y = some j) (hx : vix sc x = some i) (hk : canSt sc x) (hu : getF F j = some (.ol xs)) (hz : xs.getLast? = some z) (hs : szOk xs.length = true) (he : xs.dropLast = ys) (hl : (ap.endLine == p.line) = true) (hO : setF (setF F j (some (.ol ys))) i (some (.d z)) = F₂) :
    TS cx n sc (.Assign [.Name x px] (.Call (.Attribute (.Name y py) "pop" ap) [] [] p) pos) F G .next F₂ G := by
  subst hO he
  exact S_pop hl (vix_ok hy).1 (vix_ok hy).2 (vix_ok hx).2 hk hu hz hs
theorem s_appA {y a : Str} {f : Fld} {e : Expr} {py pa ap p pos : Pos} {i m : Nat} {u : V} {x : PyData} {xs : List PyData} (h : vix sc y = some i) (hf : fldOf a = some f) (hu : getF F i = some u) (hp' : u.plain = true) (hz' : fieldOf f u = some (.h m)) (h₁ : TE cx n sc e F G (.d x) F' G')
    (hm0 : ∃ ys, G[m]? = some (.list ys)) (hm : G'[m]? = some (.list xs)) (hz : szOk xs.length = true) (hl : (ap.endLine == p.line) = true) (hp : plainE e = true) (hO : G'.set m (.list (xs ++ [x])) = G₂) : TS cx n sc (.Expr (.Call (.Attribute (.Attribute (.Name y py) a pa) "append" ap) [e] [] p) pos) F G .next F' G₂ := by
  subst hO
  exact S_appR rfl hl hp (q_attr hf rfl (q_var h hu hp') hz') h₁ hm0 hm hz
theorem s_setA {y a : Str} {f : Fld} {k e : Expr} {py pa p pos : Pos} {i m : Nat} {u : V} {x z : PyData} {ob ob' : O} (h : vix sc y = some i) (hf : fldOf a = some f) (hc : isComp e = false) (h₁ : TE cx n sc e F G (.d x) F₁ G₁) (hu : getF F₁ i = some u) (hp' : u.plain = true) (hz' : fieldOf f u = some (.h m)) (h₃ : TE cx n sc k F₁ G₁ (.d z) F' G')
    (hm : G'[m]? = some ob) (hz : setO z x ob = some ob') (hO : G'.set m ob' = G₂) : TS cx n sc (.Assign [.Subscript (.Attribute (.Name y py) a pa) k p] e pos) F G .next F' G₂ := by
  subst hO
  exact S_setR hc h₁ (q_attr hf rfl (q_var h hu hp') hz') h₃ hm hz
theorem s_setN {y : Str} {k e : Expr} {py p pos : Pos} {i m : Nat} {x z : PyData} {ob ob' : O} (h : vix sc y = some i) (hc : isComp e = false) (h₁ : TE cx n sc e F G (.d x) F₁ G₁) (hu : getF F₁ i = some (.h m)) (h₃ : TE cx n sc k F₁ G₁ (.d z) F' G')
    (hm : G'[m]? = some ob) (hz : setO z x ob = some ob') (hO : G'.set m ob' = G₂) : TS cx n sc (.Assign [.Subscript (.Name y py) k p] e pos) F G .next F' G₂ := by
  subst hO
  exact S_setR hc h₁ (q_var h hu rfl) h₃ hm hz
theorem tg1 {x : Str} {p : Pos} {i : Nat} (h : vix sc x = some i) (hk : canSt sc x) : TgIs sc (.Name x p) (.one i) := .one (vix_ok h).2 hk
theorem s_for {x : Str} {px : Pos} {i : Nat} {iter : Expr} {body : List Stmt} {pos : Pos} {fl : Fl} {v : V} {xs : List PyData} (h : vix sc x = some i) (hk : canSt sc x) (h_it : TE cx n sc iter F G v F₁ G₁) (hx : itemsV v = some xs) (hr : ForR cx n sc (.one i) body xs F₁ G₁ fl F' G') (hp : plainE iter = true) :
    TS cx n sc (.For (.Name x px) iter body [] pos) F G fl F' G' := S_for hp h_it hx (tg1 h hk) hr
/-! comprehensions -/
structure Core (cx : Cx) (n : Nat) (sc : Sc) (elt target iter : Expr) (ifs : List Expr) (more : List Comprehension) (scope : Scope) (pos : Pos) (F : Fr') (G : List O) (F₁ : Fr') (G' : List O) (ys : List PyData) : Prop where
  run : ∀ {A : Around} {env s₀ ρ₀ B ρ oa s}, AOk n A → Rel cx sc env s₀ ρ₀ F G B ρ oa s → wpAny (model cx.prog cx.w) A (eval iter env) (fun x s₁ => wpAny (model cx.prog cx.w) A (pyIter x) (fun it s₂ => wpAny (model cx.prog cx.w) A (newList []) (fun acc s₃ =>
      wpAny (model cx.prog cx.w) A (newFunctionEnv scope env.globals (clFrom env scope.names []) [] env.qual none .none (some env)) (fun cenv s₄ =>
        codeAny (model cx.prog cx.w) A (.compStart (.ListComp elt (⟨target, iter, ifs, 0⟩ :: more) scope pos) 0 it acc { cenv with scope := relabel scope env })
          (fun r s' => r = .ok .next ∧ CompFin cx sc env s₀ ρ₀ F₁ G' B ρ oa s.heap ys acc cenv.locals s') s₄) (fun _ _ => False) s₃) (fun _ _ => False) s₂) (fun _ _ => False) s₁) (fun _ _ => False) s
/-- a comprehension's turn without a test -/
inductive Stp1 (cx : Cx) (n : Nat) (sc : Sc) (scope : Scope) (elt : Expr) (tg : Tg) (Fb : Fr') (x : PyData) (G : List O) (zs : List PyData) (G₂ : List O) : Prop
  | mk (Fi : Fr') (y : PyData) (hb : bindT Fb tg x = some Fi) (hv : ∀ B, TE cx n (scIn sc scope B) elt Fi G (.d y) Fi G₂) (hz : zs = [y])
inductive Stpr (cx : Cx) (n : Nat) (sc : Sc) (scope : Scope) (elt : Expr) (Fi : Fr') (G₁ : List O) (b : Bool) (zs : List PyData) (G₂ : List O) : Prop
  | t (y : PyData) (hb : b = true) (hv : ∀ B, TE cx n (scIn sc scope B) elt Fi G₁ (.d y) Fi G₂) (hz : zs = [y])
  | f (hb : b = false) (hz : zs = []) (hG : G₂ = G₁)
inductive Stp2 (cx : Cx) (n : Nat) (sc : Sc) (scope : Scope) (c elt : Expr) (tg : Tg) (Fb : Fr') (x : PyData) (G : List O) (zs : List PyData) (G₂ : List O) : Prop
  | mk (Fi : Fr') (b : Bool) (G₁ : List O) (hb : bindT Fb tg x = some Fi) (hc : ∀ B, TB cx n (scIn sc scope B) c Fi G b Fi G₁) (hr : Stpr cx n sc scope elt Fi G₁ b zs G₂)
noncomputable def compOk (sc : Sc) (scope : Scope) : Bool := scope.kind == .function && decide ((scope.names.map (·.1)).Nodup) && scope.names.all fun p => p.2 != .free || (sc.kind p.1 == some .cell || sc.kind p.1 == some .free)
theorem compOk_ok {scope : Scope} (h : compOk sc scope = true) : CompSc sc scope := by
  unfold compOk at h
  simp only [Bool.and_eq_true, decide_eq_true_eq, beq_iff_eq, List.all_eq_true] at h
  refine ⟨h.1.1, h.1.2, fun x hx => ?_⟩
  have := h.2 (x, .free) hx
  simpa using this
theorem core1 {elt iter : Expr} {x : Str} {px : Pos} {i own : Nat} {scope : Scope} {pos : Pos} {v : V} {xs ys : List PyData} (k : compOk sc scope = true) (h_it : TE cx n sc iter F G v F₁ G₁) (hx : itemsV v = some xs) (hF : F₁.length = sc.nm.length)
    (t : ∀ B, vix (scIn sc scope B) x = some i) (tk : ∀ B, canSt (scIn sc scope B) x) (he : getF (inner F₁ own) i = none) (hst : Steps (Stp1 cx n sc scope elt (.one i) (inner F₁ own)) xs G₁ ys G') (hz : szOk ys.length = true) :
    Core cx n sc elt (.Name x px) iter [] [] scope pos F G F₁ G' ys := by
  refine ⟨fun {A env s₀ ρ₀ B ρ oa s} ok R => ?_⟩
  refine comp_core (own := own) (tg := .one i) (stp := Stp1 cx n sc scope elt (.one i) (inner F₁ own)) (rest := fun D env' => emit elt D env') ok R (compOk_ok k) hF h_it hx hst (szOk_line hz) (fun I D env' => compTurn_1 ..) (fun B => tg1 (t B) (tk B)) he (fun x G zs G₂ hh => by obtain ⟨Fi, _, hb, _⟩ := hh; exact ⟨Fi, hb⟩) fun B env' s₀ ρ₀ D => turn1 ok fun x zs G G₁ Fi' hh hb' => ?_
  obtain ⟨Fi, y, hb, hv, hz⟩ := hh
  rw [hb] at hb'; cases hb'
  exact ⟨y, _, hz, hv B, below_bind (tg := .one i) he hb⟩
theorem core2 {elt iter c : Expr} {x : Str} {px : Pos} {i own : Nat} {scope : Scope} {pos : Pos} {v : V} {xs ys : List PyData} (k : compOk sc scope = true) (h_it : TE cx n sc iter F G v F₁ G₁) (hx : itemsV v = some xs) (hF : F₁.length = sc.nm.length)
    (t : ∀ B, vix (scIn sc scope B) x = some i) (tk : ∀ B, canSt (scIn sc scope B) x) (he : getF (inner F₁ own) i = none) (hst : Steps (Stp2 cx n sc scope c elt (.one i) (inner F₁ own)) xs G₁ ys G') (hz : szOk ys.length = true) :
    Core cx n sc elt (.Name x px) iter [c] [] scope pos F G F₁ G' ys := by
  refine ⟨fun {A env s₀ ρ₀ B ρ oa s} ok R => ?_⟩
  refine comp_core (own := own) (tg := .one i) (stp := Stp2 cx n sc scope c elt (.one i) (inner F₁ own)) (rest := fun D env' => isTrue c env' (eval c env') >>= fun ok => if ok = true then emit elt D env' else pure ()) ok R (compOk_ok k) hF h_it hx hst (szOk_line hz) (fun I D env' => compTurn_2 ..) (fun B => tg1 (t B) (tk B)) he (fun x G zs G₂ hh => by obtain ⟨Fi, _, _, hb, _⟩ := hh; exact ⟨Fi, hb⟩) fun B env' s₀ ρ₀ D => turn2 ok fun x zs G G₁ Fi' hh hb' => ?_
  obtain ⟨Fi, b, G₂, hb, hc, hv⟩ := hh
  rw [hb] at hb'; cases hb'
  refine ⟨b, _, _, hc B, ?_⟩
  cases hv with
  | t y e h1 h2 =>
    subst e
    exact ⟨y, _, h2, h1 B, below_bind (tg := .one i) he hb⟩
  | f e h1 h2 =>
    subst e
    exact ⟨h1, h2, below_bind (tg := .one i) he hb⟩
theorem q_comp {elt target iter : Expr} {ifs : List Expr} {more : List Comprehension} {scope : Scope} {pos : Pos} {ys : List PyData} (c : Core cx n sc elt target iter ifs more scope pos F G F' G' ys) (k : compOk sc scope = true) (hs : plainE iter = true) :
    TE cx n sc (.ListComp elt (⟨target, iter, ifs, 0⟩ :: more) scope pos) F G (.d (.list ys)) F' G' := (TO_comp_of (compOk_ok k) hs fun ok R => c.run ok R).te rfl
theorem s_comp {x : Str} {px spos : Pos} {i : Nat} {elt target iter : Expr} {ifs : List Expr} {more : List Comprehension} {scope : Scope} {pos : Pos} {ys : List PyData} (h : vix sc x = some i) (hk : canSt sc x) (c : Core cx n sc elt target iter ifs more scope pos F G F' G' ys) (k : compOk sc scope = true) (hs : plainE iter = true) (hO : setF F' i (some (.d (.list ys))) = F₂) :
    TS cx n sc (.Assign [.Name x px] (.ListComp elt (⟨target, iter, ifs, 0⟩ :: more) scope pos) spos) F G .next F₂ G' := by
  subst hO
  exact S_asgComp (own := false) (vix_ok h).2 hk (compOk_ok k) hs fun ok R => c.run ok R
/-- steps without effect -/
theorem steps_pure {stp : PyData → List O → List PyData → List O → Prop} {g : α → PyData} {h : α → PyData} : ∀ (xs : List α), (∀ x ∈ xs, stp (g x) G [h x] G) → Steps stp (xs.map g) G (xs.map h) G
  | [], _ => .nil
  | x :: r, e => .cons (e x (.head _)) (steps_pure r fun y hy => e y (.tail _ hy))
end
end Mine
namespace Mine
open PySem PySem.W PySem.Calls PyProof.Rows
/-- the law's surroundings -/
noncomputable def cx2 (w : World) (base : Heap) : Cx := ⟨PySem.Challenge.rw_rr0084_02.row.prog, w, K2 w.params, base, 228, 118⟩
theorem blt_mem {f : Str} {v : Value} : ∀ {l : List (Str × Value)}, l.lookup f = some v → (f, v) ∈ l
  | [], h => by cases h
  | (k, u) :: r, h => by
    rw [List.lookup_cons] at h
    cases e : f == k with
    | true =>
      rw [e] at h
      rw [beq_iff_eq.mp e, ← Option.some.inj h]
      exact .head _
    | false =>
      rw [e] at h
      exact .tail _ (blt_mem h)
set_option maxRecDepth 100000
theorem blt_boot {f : Str} {v : Value} (h : bltOf f = some v) : bootBuiltins f = some v ∧ f ≠ "__name__" := by
  have key : ∀ p ∈ bltL, bootBuiltins p.1 = some p.2 ∧ p.1 ≠ "__name__" := by
    unfold bltL
    simp only [List.forall_mem_cons]
    exact ⟨⟨by rfl, by decide⟩, ⟨by rfl, by decide⟩, ⟨by rfl, by decide⟩, ⟨by rfl, by decide⟩, ⟨by rfl, by decide⟩, ⟨by rfl, by decide⟩, ⟨by rfl, by decide⟩, ⟨by rfl, by decide⟩, ⟨by rfl, by decide⟩, ⟨by rfl, by decide⟩, ⟨by rfl, by decide⟩, fun _ h => nomatch h⟩
  exact key _ (blt_mem h)
theorem grel0 {cx : Cx} (ok : CxOk cx) {h : Heap} (hb : cx.base = h) {B : Heap} (hB : Le B h) (hs : B.get? sysModules = none) : GRel cx [] B [] h :=
  { ok := ok, base := hb ▸ Le.refl _, sub := hB, nd := .nil, out := fun _ h => (by cases h), bsys := hs, len := rfl, obj := fun n o h => by simp at h }
theorem ints_rep {prog : Program} {w : World} {B : Heap} : ∀ {vs : List Value} {ns : List Int}, IntsAre vs ns → RepAll prog w B vs (ns.map .int) := by
  intro vs ns h
  induction h with
  | nil => exact .nil
  | cons _ _ _ ih => exact .cons (.int _ _) ih
theorem ns_val_of {K : Frag} {h : Heap} {N : Addr} {mg : Str → Option Value} {n : Str} {v : Value} (X : K.In h) (G : h.Ns N mg) (e : nsIn K N n = some (some v)) : mg n = some v := by
  obtain ⟨o, es, ep, ho, hd, _, hf⟩ := G
  unfold nsIn at e
  split at e
  · rename_i c d es' n' sl q
    have := X _ _ q
    rw [ho] at this
    cases this
    cases hd
    split at e
    · rename_i e' he
      cases e
      rw [← hf]
      unfold nsFind findBy
      rw [← Array.find?_toList, he]
      rfl
    · split at e <;> cases e
  · cases e
theorem law_nm (P : Params) : nsIn (K2 P) mainGlobals "law" = some (some (.ref 278)) := by rfl
theorem forall3 {p : Str → Prop} {a b c : Str} (h1 : p a) (h2 : p b) (h3 : p c) : ∀ f, f ∈ [a, b, c] → p f := by
  intro f hf; simp only [List.mem_cons, List.not_mem_nil, or_false] at hf; rcases hf with rfl | rfl | rfl <;> assumption
theorem forall5 {p : Str → Prop} {a b c d e : Str} (h1 : p a) (h2 : p b) (h3 : p c) (h4 : p d) (h5 : p e) : ∀ f, f ∈ [a, b, c, d, e] → p f := by
  intro f hf; simp only [List.mem_cons, List.not_mem_nil, or_false] at hf; rcases hf with rfl | rfl | rfl | rfl | rfl <;> assumption
theorem cx2_ok (w : World) (base : Heap) (hK : (K2 w.params).In base) (h3 : (base.get? mainGlobals).isSome) (hb : ∃ mb, base.Ns builtinsNs mb ∧ ∀ f v, bltOf f = some v → mb f = some v) (hl : base.NoLimit) : CxOk (cx2 w base) where
  inK := hK
  three := h3
  blt := hb
  lim := hl
  gC := by rfl
  hC := by rfl
  fC := forall3 (by rfl) (by rfl) (by rfl)
  gT := by rfl
  hT := by rfl
  fT := forall5 (by rfl) (by rfl) (by rfl) (by rfl) (by rfl)
theorem said2 : PySem.Challenge.rw_rr0084_02.wellSaid = true := by kernel_rfl
set_option maxHeartbeats 0
theorem join2 (hlaw : ∀ (w : World) (base : Heap), ∀ ns : List Int, ns.length ≤ 63 → ∃ G', CallOk (cx2 w base) 32 278 [.d (.list (ns.map .int))] [] (.d (.bool true)) G') : PySem.Challenge.rw_rr0084_02.Holds := by
  w_on
  refine holds_law said2 fun said => ?_
  refine holds_open (q := view2) (loose := []) (Xt := fun s => xlAt view2 [] s && recOk (RowW.records PySem.Challenge.rw_rr0084_02.row.toRowW) s) (XP := XL view2 []) (Yf := Hook.obs H2) (Ya := Hook.val H2) (YP := Hook.says H2) (N := 3198) left2 (Hook.of H2) (Hook.keeps H2) (fun s e => xl_of s (Bool.and_eq_true_iff.mp e).1) XL.keeps (by rfl) (by rfl) (by rfl) (fun s e => recFacts_of (Bool.and_eq_true_iff.mp e).2) (by rfl) (by first | assumption | decide +kernel) (by decide +kernel) ⟨rfl, rfl, rfl, rfl, rfl, by decide +kernel⟩ ?hw ?hc
  case hw => w_witness2
  case hc =>
    intro w s₀ s₁ mg mb G Y fa o pm cd doc dV kV ho hdd hcd hD hmg hg args vals as hpre hlay hrd hwl hlo
    have KX := kIn_of Y
    refine Ground.open G ?_
    intro T B D TE TW
    clear TW TE B hcd D
    have hlo' := hlo
    wrow_args hpre hlay hrd hwl hlo
    all_goals (
      first | refine callC_kw (enter_call ?_) | refine enter_call ?_ | refine callC_kw (enter_callW ?_) | refine enter_callW ?_ | w_how)
    replace hmg : mg "law" = some (.ref fa) := hmg
    clear hdd hD Y G
    rename_i ns _ _ _ _ _ las _ a vs _ hL _ w1 r0 hI _ hlen _
    have hlen : ns.length ≤ 63 := by lia
    have e278 : fa = 278 := by
      have := ns_val_of KX T.g (law_nm w.params)
      rw [hmg] at this
      cases this; rfl
    subst e278
    have hpl : s₁.heap.PlainList a vs.toArray := by
      cases w1 with
      | list h1 _ => 
        obtain ⟨oo, h2, h3, n, h4⟩ := hL
        rw [h1] at h2; cases h2; cases h4
        exact ⟨_, h1⟩
    have hsys : a ≠ sysModules := by
      have hm : a ∈ las := by
        cases r0 with
        | list _ _ _ _ => exact .head _
      have := hlo' a (List.mem_append_left _ hm)
      simpa using this
    have hT3 : (s₁.heap.get? mainGlobals).isSome := by
      obtain ⟨o, _, _, ho, _⟩ := T.g
      rw [ho]; rfl
    have ok := cx2_ok w s₁.heap KX hT3 ⟨mb, T.b, fun f v h => by rw [T.builtins f (blt_boot h).2]; exact (blt_boot h).1⟩ T.nolimit
    let B₀ : Heap := mask (fun b => b == a) s₁.heap
    have hB0 : Le B₀ s₁.heap := fun b o e => by
      rw [get?_mask] at e
      split at e
      · exact e
      · cases e
    have hBs : B₀.get? sysModules = none := by rw [get?_mask, if_neg]; simpa using Ne.symm hsys
    have g0 := grel0 ok rfl hB0 hBs
    have hrep : Rep PySem.Challenge.rw_rr0084_02.row.prog w B₀ (.ref a) (.list (ns.map .int)) := by
      obtain ⟨n, hn⟩ := hpl
      exact .list ⟨n, by rw [get?_mask, if_pos (by simp)]; exact hn⟩ (ints_rep hI)
    obtain ⟨G', he⟩ := hlaw w s₁.heap ns hlen
    have hcall := he callerA s₁ [] B₀ [none] [.ref a] ⟨rfl, by decide, by decide⟩ g0 (.cons hrep rfl (fun a h => by cases h) .nil)
    refine codeAny_mono hcall fun r s' q => ?_
    obtain ⟨val, B', ρ', rfl, g', cg, rv⟩ := q
    obtain ⟨h', tk, rfl⟩ := cg.same
    cases rv
    refine GoodW.toG ⟨.inl ⟨_, .bool true, [], rfl, ?_, .bool true, ?_, ?_⟩, ?_, rfl, hg⟩
    · intro cls; rfl
    · clear hL r0 hI w1 hcall g0 hrep he g' cg; wrow_post
    · intro _; exact ⟨.nil, fun a h => by cases h⟩
    · exact fun b o e => cg.keep b o (by simp) e
end Mine
namespace Mine
open PySem PySem.W PySem.Calls PyProof.Rows
theorem len_cons {l : List Value} {n : Nat} (h : l.length = n + 1) : ∃ a r, l = a :: r ∧ r.length = n := by
  cases l with
  | nil => cases h
  | cons a r => exact ⟨a, r, rfl, Nat.succ.inj h⟩
theorem len_nil {l : List Value} (h : l.length = 0) : l = [] := List.eq_nil_of_length_eq_zero h
theorem bd1 {fd : FuncData} {p1 : Str} (h : ∀ a1, bindArgs fd ⟨[a1], []⟩ = pure [(p1, a1)]) (vals : List Value) (hl : vals.length = [p1].length) : bindArgs fd ⟨vals, []⟩ = pure ([p1].zip vals) := by
  obtain ⟨a1, r1, rfl, h1⟩ := len_cons hl
  rw [len_nil h1]
  exact h a1
theorem bd2 {fd : FuncData} {p1 p2 : Str} (h : ∀ a1 a2, bindArgs fd ⟨[a1, a2], []⟩ = pure [(p1, a1), (p2, a2)]) (vals : List Value) (hl : vals.length = [p1, p2].length) : bindArgs fd ⟨vals, []⟩ = pure ([p1, p2].zip vals) := by
  obtain ⟨a1, r1, rfl, h1⟩ := len_cons hl
  obtain ⟨a2, r2, rfl, h2⟩ := len_cons h1
  rw [len_nil h2]
  exact h a1 a2
theorem bd3 {fd : FuncData} {p1 p2 p3 : Str} (h : ∀ a1 a2 a3, bindArgs fd ⟨[a1, a2, a3], []⟩ = pure [(p1, a1), (p2, a2), (p3, a3)]) (vals : List Value) (hl : vals.length = [p1, p2, p3].length) : bindArgs fd ⟨vals, []⟩ = pure ([p1, p2, p3].zip vals) := by
  obtain ⟨a1, r1, rfl, h1⟩ := len_cons hl
  obtain ⟨a2, r2, rfl, h2⟩ := len_cons h1
  obtain ⟨a3, r3, rfl, h3⟩ := len_cons h2
  rw [len_nil h3]
  exact h a1 a2 a3
theorem bd4 {fd : FuncData} {p1 p2 p3 p4 : Str} (h : ∀ a1 a2 a3 a4, bindArgs fd ⟨[a1, a2, a3, a4], []⟩ = pure [(p1, a1), (p2, a2), (p3, a3), (p4, a4)]) (vals : List Value) (hl : vals.length = [p1, p2, p3, p4].length) : bindArgs fd ⟨vals, []⟩ = pure ([p1, p2, p3, p4].zip vals) := by
  obtain ⟨a1, r1, rfl, h1⟩ := len_cons hl
  obtain ⟨a2, r2, rfl, h2⟩ := len_cons h1
  obtain ⟨a3, r3, rfl, h3⟩ := len_cons h2
  obtain ⟨a4, r4, rfl, h4⟩ := len_cons h3
  rw [len_nil h4]
  exact h a1 a2 a3 a4
/-- what a function's record must be -/
noncomputable def fnCk (K : Frag) (fd : FuncData) : Bool :=
  codeIn K fd.code fd.qualname && fd.closure.isEmpty && !fd.scope.isCoroutine && !fd.scope.isGenerator && fd.scope.kind == .function && fd.globals == mainGlobals && fd.builtins == builtinsNs &&
  fd.scope.names.all (fun p => p.2 != .free) && decide ((localsOf fd.params fd.scope).Nodup) && fd.params.args.all (fun a => fd.scope.names.lookup a.arg == some .local || fd.scope.names.lookup a.arg == some .cell)
theorem fnAt_ck {cx : Cx} {f : Addr} {o : Obj} {fd : FuncData} {body : List Stmt} {ps ls : List Str} (ho : cx.K.lookup f = some o) (hd : o.data = .func fd) (hb : fd.body = .stmts body) (hck : fnCk cx.K fd = true)
    (hps : fd.params.args.map (·.arg) = ps) (hls : localsOf fd.params fd.scope = ls)
    (hbn : ∀ vals : List Value, vals.length = ps.length → bindArgs fd ⟨vals, []⟩ = pure (ps.zip vals)) : FnAt cx f fd ps ls body := by
  subst hps hls
  unfold fnCk at hck
  simp only [Bool.and_eq_true, Bool.or_eq_true, beq_iff_eq, decide_eq_true_eq, List.all_eq_true, bne_iff_ne, ne_eq, List.isEmpty_iff, Option.isNone_iff_eq_none, Bool.not_eq_true'] at hck
  obtain ⟨⟨⟨⟨⟨⟨⟨⟨⟨h1, h2⟩, h3⟩, h4⟩, h5⟩, h6⟩, h7⟩, h8⟩, h9⟩, h10⟩ := hck
  have pre : fd.params.args.map (·.arg) <+: localsOf fd.params fd.scope := ⟨_, rfl⟩
  have hfree : ∀ x : Str, fd.scope.names.lookup x ≠ some .free := fun x hx => h8 _ (mem_of_lookup hx) rfl
  have hpk : ∀ x ∈ fd.params.args.map (·.arg), fd.scope.names.lookup x = some .local ∨ fd.scope.names.lookup x = some .cell := fun x hx => by
    obtain ⟨a, ha, rfl⟩ := List.mem_map.mp hx
    exact h10 a ha
  exact { at_ := ⟨o, ho, hd⟩, code := h1, body := hb, clo := h2, co := h3, gen := h4, head := ⟨h5, h6, h7, hfree, h9, pre, hpk⟩, bind := hbn }


noncomputable def stmtsOf : FuncBody → List Stmt
  | .stmts b => b
  | _ => []
set_option maxRecDepth 100000
theorem blt2 (P : Params) (f : Str) (h : (bltOf f).isSome = true) : nsIn (K2 P) mainGlobals f = some none := by
  have key : ∀ p ∈ bltL, nsIn (K2 P) mainGlobals p.1 = some none := by
    unfold bltL
    simp only [List.forall_mem_cons]
    exact ⟨by rfl, by rfl, by rfl, by rfl, by rfl, by rfl, by rfl, by rfl, by rfl, by rfl, by rfl, fun _ h => nomatch h⟩
  obtain ⟨v, hv⟩ := Option.isSome_iff_exists.mp h
  exact key _ (blt_mem hv)
theorem blt_odd {f : Str} (h : (bltOf f).isSome = true) : oddName f = false := by
  have key : ∀ p ∈ bltL, oddName p.1 = false := by decide +kernel
  obtain ⟨v, hv⟩ := Option.isSome_iff_exists.mp h
  exact key _ (blt_mem hv)
variable (w : World) (base : Heap)
theorem bq {w : World} {base : Heap} {sc : Sc} {f : Str} {v : Value} (hk : sc.kind f = some .globalImplicit) (hb : bltOf f = some v) : Blt (cx2 w base) sc f v := ⟨hk, blt_odd (by rw [hb]; rfl), blt2 _ f (by rw [hb]; rfl), hb⟩
structure Fn2 (cx : Cx) (x : Str) (f : Addr) : Prop where
  o : oddName x = false
  n : nsIn cx.K mainGlobals x = some (some (.ref f))
  fn : ∃ o fd, cx.K.lookup f = some o ∧ o.data = .func fd
theorem fq {cx : Cx} {sc : Sc} {x : Str} {f : Addr} (h : Fn2 cx x f) (hk : sc.kind x = some .globalImplicit) : FnNm cx sc x f := ⟨hk, h.o, h.n, h.fn⟩
theorem m_kind : MtNm (cx2 w base) (cx2 w base).cC "kind" 150 := ⟨by rfl, by rfl, _, _, rfl, rfl⟩
theorem m_parts : MtNm (cx2 w base) (cx2 w base).cC "parts" 157 := ⟨by rfl, by rfl, _, _, rfl, rfl⟩
theorem m_size : MtNm (cx2 w base) (cx2 w base).cC "size" 143 := ⟨by rfl, by rfl, _, _, rfl, rfl⟩
theorem m_new_gate : MtNm (cx2 w base) (cx2 w base).cC "new_gate" 164 := ⟨by rfl, by rfl, _, _, rfl, rfl⟩
theorem m_new_input : MtNm (cx2 w base) (cx2 w base).cC "new_input" 171 := ⟨by rfl, by rfl, _, _, rfl, rfl⟩
theorem m_all_of : MtNm (cx2 w base) (cx2 w base).cC "all_of" 178 := ⟨by rfl, by rfl, _, _, rfl, rfl⟩
theorem m_any_of : MtNm (cx2 w base) (cx2 w base).cC "any_of" 183 := ⟨by rfl, by rfl, _, _, rfl, rfl⟩
theorem m_both : MtNm (cx2 w base) (cx2 w base).cC "both" 190 := ⟨by rfl, by rfl, _, _, rfl, rfl⟩
theorem m_implies : MtNm (cx2 w base) (cx2 w base).cC "implies" 204 := ⟨by rfl, by rfl, _, _, rfl, rfl⟩
theorem m_iff : MtNm (cx2 w base) (cx2 w base).cC "iff" 211 := ⟨by rfl, by rfl, _, _, rfl, rfl⟩
theorem m_unlike : MtNm (cx2 w base) (cx2 w base).cC "unlike" 218 := ⟨by rfl, by rfl, _, _, rfl, rfl⟩
theorem m_choose : MtNm (cx2 w base) (cx2 w base).cC "choose" 225 := ⟨by rfl, by rfl, _, _, rfl, rfl⟩
theorem m_below : MtNm (cx2 w base) (cx2 w base).cT "below" 40 := ⟨by rfl, by rfl, _, _, rfl, rfl⟩
theorem m_support : MtNm (cx2 w base) (cx2 w base).cT "support" 47 := ⟨by rfl, by rfl, _, _, rfl, rfl⟩
theorem m_gathered : MtNm (cx2 w base) (cx2 w base).cT "gathered" 54 := ⟨by rfl, by rfl, _, _, rfl, rfl⟩
theorem m_turned : MtNm (cx2 w base) (cx2 w base).cT "turned" 61 := ⟨by rfl, by rfl, _, _, rfl, rfl⟩
theorem m_settled : MtNm (cx2 w base) (cx2 w base).cT "settled" 66 := ⟨by rfl, by rfl, _, _, rfl, rfl⟩
theorem n_law_draw : Fn2 (cx2 w base) "_law_draw" 239 := ⟨by rfl, by rfl, _, _, rfl, rfl⟩
theorem n_law_signed : Fn2 (cx2 w base) "_law_signed" 246 := ⟨by rfl, by rfl, _, _, rfl, rfl⟩
theorem n_law_gate : Fn2 (cx2 w base) "_law_gate" 251 := ⟨by rfl, by rfl, _, _, rfl, rfl⟩
theorem n_law_under : Fn2 (cx2 w base) "_law_under" 256 := ⟨by rfl, by rfl, _, _, rfl, rfl⟩
theorem n_law_column : Fn2 (cx2 w base) "_law_column" 261 := ⟨by rfl, by rfl, _, _, rfl, rfl⟩
theorem n_law_fixed : Fn2 (cx2 w base) "_law_fixed" 268 := ⟨by rfl, by rfl, _, _, rfl, rfl⟩
theorem n_law_all_gates : Fn2 (cx2 w base) "_law_all_gates" 273 := ⟨by rfl, by rfl, _, _, rfl, rfl⟩
noncomputable def fd35 : FuncData := fdO (stM 2 0) (Str.ofString "Counter.__init__") (Value.str (Str.ofString "relfinder.counting") 194) 34
noncomputable def ls35 : List Str := localsOf fd35.params fd35.scope
noncomputable def bd35 : List Stmt := stmtsOf fd35.body
theorem fn35 : FnAt (cx2 w base) 35 fd35 ["self", "circuit", "inputs"] ls35 bd35 := fnAt_ck rfl rfl rfl (by rfl) (by rfl) rfl (bd3 fun _ _ _ => by rfl)
noncomputable def fd40 : FuncData := fdO (stM 2 1) (Str.ofString "Counter.below") (Value.str (Str.ofString "relfinder.counting") 194) 39
noncomputable def ls40 : List Str := localsOf fd40.params fd40.scope
noncomputable def bd40 : List Stmt := stmtsOf fd40.body
theorem fn40 : FnAt (cx2 w base) 40 fd40 ["self", "gate"] ls40 bd40 := fnAt_ck rfl rfl rfl (by rfl) (by rfl) rfl (bd2 fun _ _ => by rfl)
noncomputable def fd47 : FuncData := fdO (stM 2 2) (Str.ofString "Counter.support") (Value.str (Str.ofString "relfinder.counting") 194) 46
noncomputable def ls47 : List Str := localsOf fd47.params fd47.scope
noncomputable def bd47 : List Stmt := stmtsOf fd47.body
theorem fn47 : FnAt (cx2 w base) 47 fd47 ["self", "gate"] ls47 bd47 := fnAt_ck rfl rfl rfl (by rfl) (by rfl) rfl (bd2 fun _ _ => by rfl)
noncomputable def fd54 : FuncData := fdO (stM 2 3) (Str.ofString "Counter.gathered") (Value.str (Str.ofString "relfinder.counting") 194) 53
noncomputable def ls54 : List Str := localsOf fd54.params fd54.scope
noncomputable def bd54 : List Stmt := stmtsOf fd54.body
theorem fn54 : FnAt (cx2 w base) 54 fd54 ["self", "here"] ls54 bd54 := fnAt_ck rfl rfl rfl (by rfl) (by rfl) rfl (bd2 fun _ _ => by rfl)
noncomputable def fd61 : FuncData := fdO (stM 2 4) (Str.ofString "Counter.turned") (Value.str (Str.ofString "relfinder.counting") 194) 60
noncomputable def ls61 : List Str := localsOf fd61.params fd61.scope
noncomputable def bd61 : List Stmt := stmtsOf fd61.body
theorem fn61 : FnAt (cx2 w base) 61 fd61 ["self", "gate", "table"] ls61 bd61 := fnAt_ck rfl rfl rfl (by rfl) (by rfl) rfl (bd3 fun _ _ _ => by rfl)
noncomputable def fd66 : FuncData := fdO (stM 2 5) (Str.ofString "Counter.settled") (Value.str (Str.ofString "relfinder.counting") 194) 65
noncomputable def ls66 : List Str := localsOf fd66.params fd66.scope
noncomputable def bd66 : List Stmt := stmtsOf fd66.body
theorem fn66 : FnAt (cx2 w base) 66 fd66 ["self", "gate", "x", "value"] ls66 bd66 := fnAt_ck rfl rfl rfl (by rfl) (by rfl) rfl (bd4 fun _ _ _ _ => by rfl)
noncomputable def fd136 : FuncData := fdO (stM 4 0) (Str.ofString "Circuit.__init__") (Value.str (Str.ofString "relfinder.circuit") 328) 135
noncomputable def ls136 : List Str := localsOf fd136.params fd136.scope
noncomputable def bd136 : List Stmt := stmtsOf fd136.body
theorem fn136 : FnAt (cx2 w base) 136 fd136 ["self"] ls136 bd136 := fnAt_ck rfl rfl rfl (by rfl) (by rfl) rfl (bd1 fun _ => by rfl)
noncomputable def fd143 : FuncData := fdO (stM 4 1) (Str.ofString "Circuit.size") (Value.str (Str.ofString "relfinder.circuit") 328) 142
noncomputable def ls143 : List Str := localsOf fd143.params fd143.scope
noncomputable def bd143 : List Stmt := stmtsOf fd143.body
theorem fn143 : FnAt (cx2 w base) 143 fd143 ["self"] ls143 bd143 := fnAt_ck rfl rfl rfl (by rfl) (by rfl) rfl (bd1 fun _ => by rfl)
noncomputable def fd150 : FuncData := fdO (stM 4 2) (Str.ofString "Circuit.kind") (Value.str (Str.ofString "relfinder.circuit") 328) 149
noncomputable def ls150 : List Str := localsOf fd150.params fd150.scope
noncomputable def bd150 : List Stmt := stmtsOf fd150.body
theorem fn150 : FnAt (cx2 w base) 150 fd150 ["self", "g"] ls150 bd150 := fnAt_ck rfl rfl rfl (by rfl) (by rfl) rfl (bd2 fun _ _ => by rfl)
noncomputable def fd157 : FuncData := fdO (stM 4 3) (Str.ofString "Circuit.parts") (Value.str (Str.ofString "relfinder.circuit") 328) 156
noncomputable def ls157 : List Str := localsOf fd157.params fd157.scope
noncomputable def bd157 : List Stmt := stmtsOf fd157.body
theorem fn157 : FnAt (cx2 w base) 157 fd157 ["self", "g"] ls157 bd157 := fnAt_ck rfl rfl rfl (by rfl) (by rfl) rfl (bd2 fun _ _ => by rfl)
noncomputable def fd164 : FuncData := fdO (stM 4 4) (Str.ofString "Circuit.new_gate") (Value.str (Str.ofString "relfinder.circuit") 328) 163
noncomputable def ls164 : List Str := localsOf fd164.params fd164.scope
noncomputable def bd164 : List Stmt := stmtsOf fd164.body
theorem fn164 : FnAt (cx2 w base) 164 fd164 ["self", "kind", "parts"] ls164 bd164 := fnAt_ck rfl rfl rfl (by rfl) (by rfl) rfl (bd3 fun _ _ _ => by rfl)
noncomputable def fd171 : FuncData := fdO (stM 4 5) (Str.ofString "Circuit.new_input") (Value.str (Str.ofString "relfinder.circuit") 328) 170
noncomputable def ls171 : List Str := localsOf fd171.params fd171.scope
noncomputable def bd171 : List Stmt := stmtsOf fd171.body
theorem fn171 : FnAt (cx2 w base) 171 fd171 ["self"] ls171 bd171 := fnAt_ck rfl rfl rfl (by rfl) (by rfl) rfl (bd1 fun _ => by rfl)
noncomputable def fd178 : FuncData := fdO (stM 4 6) (Str.ofString "Circuit.all_of") (Value.str (Str.ofString "relfinder.circuit") 328) 177
noncomputable def ls178 : List Str := localsOf fd178.params fd178.scope
noncomputable def bd178 : List Stmt := stmtsOf fd178.body
theorem fn178 : FnAt (cx2 w base) 178 fd178 ["self", "gates"] ls178 bd178 := fnAt_ck rfl rfl rfl (by rfl) (by rfl) rfl (bd2 fun _ _ => by rfl)
noncomputable def fd183 : FuncData := fdO (stM 4 7) (Str.ofString "Circuit.any_of") (Value.str (Str.ofString "relfinder.circuit") 328) 182
noncomputable def ls183 : List Str := localsOf fd183.params fd183.scope
noncomputable def bd183 : List Stmt := stmtsOf fd183.body
theorem fn183 : FnAt (cx2 w base) 183 fd183 ["self", "gates"] ls183 bd183 := fnAt_ck rfl rfl rfl (by rfl) (by rfl) rfl (bd2 fun _ _ => by rfl)
noncomputable def fd190 : FuncData := fdO (stM 4 8) (Str.ofString "Circuit.both") (Value.str (Str.ofString "relfinder.circuit") 328) 189
noncomputable def ls190 : List Str := localsOf fd190.params fd190.scope
noncomputable def bd190 : List Stmt := stmtsOf fd190.body
theorem fn190 : FnAt (cx2 w base) 190 fd190 ["self", "a", "b"] ls190 bd190 := fnAt_ck rfl rfl rfl (by rfl) (by rfl) rfl (bd3 fun _ _ _ => by rfl)
noncomputable def fd204 : FuncData := fdO (stM 4 10) (Str.ofString "Circuit.implies") (Value.str (Str.ofString "relfinder.circuit") 328) 203
noncomputable def ls204 : List Str := localsOf fd204.params fd204.scope
noncomputable def bd204 : List Stmt := stmtsOf fd204.body
theorem fn204 : FnAt (cx2 w base) 204 fd204 ["self", "a", "b"] ls204 bd204 := fnAt_ck rfl rfl rfl (by rfl) (by rfl) rfl (bd3 fun _ _ _ => by rfl)
noncomputable def fd211 : FuncData := fdO (stM 4 11) (Str.ofString "Circuit.iff") (Value.str (Str.ofString "relfinder.circuit") 328) 210
noncomputable def ls211 : List Str := localsOf fd211.params fd211.scope
noncomputable def bd211 : List Stmt := stmtsOf fd211.body
theorem fn211 : FnAt (cx2 w base) 211 fd211 ["self", "a", "b"] ls211 bd211 := fnAt_ck rfl rfl rfl (by rfl) (by rfl) rfl (bd3 fun _ _ _ => by rfl)
noncomputable def fd218 : FuncData := fdO (stM 4 12) (Str.ofString "Circuit.unlike") (Value.str (Str.ofString "relfinder.circuit") 328) 217
noncomputable def ls218 : List Str := localsOf fd218.params fd218.scope
noncomputable def bd218 : List Stmt := stmtsOf fd218.body
theorem fn218 : FnAt (cx2 w base) 218 fd218 ["self", "a", "b"] ls218 bd218 := fnAt_ck rfl rfl rfl (by rfl) (by rfl) rfl (bd3 fun _ _ _ => by rfl)
noncomputable def fd225 : FuncData := fdO (stM 4 13) (Str.ofString "Circuit.choose") (Value.str (Str.ofString "relfinder.circuit") 328) 224
noncomputable def ls225 : List Str := localsOf fd225.params fd225.scope
noncomputable def bd225 : List Stmt := stmtsOf fd225.body
theorem fn225 : FnAt (cx2 w base) 225 fd225 ["self", "c", "a", "b"] ls225 bd225 := fnAt_ck rfl rfl rfl (by rfl) (by rfl) rfl (bd4 fun _ _ _ _ => by rfl)
noncomputable def fd239 : FuncData := fdO (stA 6) (Str.ofString "_law_draw") (Value.str (Str.ofString "law_rr0084_02") 471) 238
noncomputable def ls239 : List Str := localsOf fd239.params fd239.scope
noncomputable def bd239 : List Stmt := stmtsOf fd239.body
theorem fn239 : FnAt (cx2 w base) 239 fd239 ["feed", "wide"] ls239 bd239 := fnAt_ck rfl rfl rfl (by rfl) (by rfl) rfl (bd2 fun _ _ => by rfl)
noncomputable def fd246 : FuncData := fdO (stA 7) (Str.ofString "_law_signed") (Value.str (Str.ofString "law_rr0084_02") 471) 245
noncomputable def ls246 : List Str := localsOf fd246.params fd246.scope
noncomputable def bd246 : List Stmt := stmtsOf fd246.body
theorem fn246 : FnAt (cx2 w base) 246 fd246 ["feed", "gates"] ls246 bd246 := fnAt_ck rfl rfl rfl (by rfl) (by rfl) rfl (bd2 fun _ _ => by rfl)
noncomputable def fd251 : FuncData := fdO (stA 8) (Str.ofString "_law_gate") (Value.str (Str.ofString "law_rr0084_02") 471) 250
noncomputable def ls251 : List Str := localsOf fd251.params fd251.scope
noncomputable def bd251 : List Stmt := stmtsOf fd251.body
theorem fn251 : FnAt (cx2 w base) 251 fd251 ["feed", "circuit", "gates"] ls251 bd251 := fnAt_ck rfl rfl rfl (by rfl) (by rfl) rfl (bd3 fun _ _ _ => by rfl)
noncomputable def fd256 : FuncData := fdO (stA 9) (Str.ofString "_law_under") (Value.str (Str.ofString "law_rr0084_02") 471) 255
noncomputable def ls256 : List Str := localsOf fd256.params fd256.scope
noncomputable def bd256 : List Stmt := stmtsOf fd256.body
theorem fn256 : FnAt (cx2 w base) 256 fd256 ["circuit", "gate"] ls256 bd256 := fnAt_ck rfl rfl rfl (by rfl) (by rfl) rfl (bd2 fun _ _ => by rfl)
noncomputable def fd261 : FuncData := fdO (stA 10) (Str.ofString "_law_column") (Value.str (Str.ofString "law_rr0084_02") 471) 260
noncomputable def ls261 : List Str := localsOf fd261.params fd261.scope
noncomputable def bd261 : List Stmt := stmtsOf fd261.body
theorem fn261 : FnAt (cx2 w base) 261 fd261 ["circuit", "inputs", "gate"] ls261 bd261 := fnAt_ck rfl rfl rfl (by rfl) (by rfl) rfl (bd3 fun _ _ _ => by rfl)
noncomputable def fd268 : FuncData := fdO (stA 11) (Str.ofString "_law_fixed") (Value.str (Str.ofString "law_rr0084_02") 471) 267
noncomputable def ls268 : List Str := localsOf fd268.params fd268.scope
noncomputable def bd268 : List Stmt := stmtsOf fd268.body
theorem fn268 : FnAt (cx2 w base) 268 fd268 ["column", "many", "k", "is_true"] ls268 bd268 := fnAt_ck rfl rfl rfl (by rfl) (by rfl) rfl (bd4 fun _ _ _ _ => by rfl)
noncomputable def fd273 : FuncData := fdO (stA 12) (Str.ofString "_law_all_gates") (Value.str (Str.ofString "law_rr0084_02") 471) 272
noncomputable def ls273 : List Str := localsOf fd273.params fd273.scope
noncomputable def bd273 : List Stmt := stmtsOf fd273.body
theorem fn273 : FnAt (cx2 w base) 273 fd273 ["circuit", "many"] ls273 bd273 := fnAt_ck rfl rfl rfl (by rfl) (by rfl) rfl (bd2 fun _ _ => by rfl)
noncomputable def fd278 : FuncData := fdO (stA 13) (Str.ofString "law") (Value.str (Str.ofString "law_rr0084_02") 471) 277
noncomputable def ls278 : List Str := localsOf fd278.params fd278.scope
noncomputable def bd278 : List Stmt := stmtsOf fd278.body
theorem fn278 : FnAt (cx2 w base) 278 fd278 ["script"] ls278 bd278 := fnAt_ck rfl rfl rfl (by rfl) (by rfl) rfl (bd1 fun _ => by rfl)
end Mine
namespace Mine
local macro_rules | `(tactic| k_upd) => `(tactic| first | exact rfl | exact T_int _ _ _ | exact T_str _ _ _ | exact T_bool _ _ _ | exact TA_nil | exact TL_nil | (with_reducible refine' q_name ?_ ?_ ?_) | (with_reducible refine' B_cmp ?_ ?_) | (with_reducible refine' B_plain ?_ ?_) | (with_reducible refine' T_neg ?_) | (with_reducible refine' q_lt ?_ ?_ ?_ ?_) | (with_reducible refine' q_gt ?_ ?_ ?_ ?_) | (with_reducible refine' q_eq ?_ ?_ ?_ ?_) | (with_reducible refine' q_ne ?_ ?_ ?_ ?_) | (with_reducible refine' q_inv ?_ ?_ ?_ ?_) | (with_reducible refine' q_ninv ?_ ?_ ?_ ?_) | (with_reducible refine' q_in ?_ ?_ ?_ ?_) | (with_reducible refine' q_nin ?_ ?_ ?_ ?_) | (with_reducible refine' T_abs (bq ?_ ?_) ?_ ?_) | (with_reducible refine' q_lenv (bq ?_ ?_) ?_ ?_ ?_) | (with_reducible refine' T_len (bq ?_ ?_) ?_ ?_ ?_) | (with_reducible refine' T_tuple (bq ?_ ?_) ?_ ?_ ?_) | (with_reducible refine' T_intb (bq ?_ ?_) ?_ ?_) | (with_reducible refine' T_sum (bq ?_ ?_) ?_ ?_ ?_) | (with_reducible refine' T_range1 (bq ?_ ?_) ?_ ?_) | (with_reducible refine' T_range2 (bq ?_ ?_) ?_ ?_ ?_ ?_) | (with_reducible refine' q_sortedv (bq ?_ ?_) ?_ ?_ ?_ ?_) | (with_reducible refine' q_mc (m_kind _ _) ?_ ?_ ?_ ?_ ?_ ?_ ?_ ?_) | (with_reducible refine' q_mc (m_parts _ _) ?_ ?_ ?_ ?_ ?_ ?_ ?_ ?_) | (with_reducible refine' q_mc0 (m_size _ _) ?_ ?_ ?_ ?_ ?_) | (with_reducible refine' q_mc (m_new_gate _ _) ?_ ?_ ?_ ?_ ?_ ?_ ?_ ?_) | (with_reducible refine' q_mc0 (m_new_input _ _) ?_ ?_ ?_ ?_ ?_) | (with_reducible refine' q_mc (m_all_of _ _) ?_ ?_ ?_ ?_ ?_ ?_ ?_ ?_) | (with_reducible refine' q_mc (m_any_of _ _) ?_ ?_ ?_ ?_ ?_ ?_ ?_ ?_) | (with_reducible refine' q_mc (m_both _ _) ?_ ?_ ?_ ?_ ?_ ?_ ?_ ?_) | (with_reducible refine' q_mc (m_implies _ _) ?_ ?_ ?_ ?_ ?_ ?_ ?_ ?_) | (with_reducible refine' q_mc (m_iff _ _) ?_ ?_ ?_ ?_ ?_ ?_ ?_ ?_) | (with_reducible refine' q_mc (m_unlike _ _) ?_ ?_ ?_ ?_ ?_ ?_ ?_ ?_) | (with_reducible refine' q_mc (m_choose _ _) ?_ ?_ ?_ ?_ ?_ ?_ ?_ ?_) | (with_reducible refine' q_mt (m_below _ _) ?_ ?_ ?_ ?_ ?_ ?_ ?_ ?_) | (with_reducible refine' q_mt (m_support _ _) ?_ ?_ ?_ ?_ ?_ ?_ ?_ ?_) | (with_reducible refine' q_mt (m_gathered _ _) ?_ ?_ ?_ ?_ ?_ ?_ ?_ ?_) | (with_reducible refine' q_mt (m_turned _ _) ?_ ?_ ?_ ?_ ?_ ?_ ?_ ?_) | (with_reducible refine' q_mt (m_settled _ _) ?_ ?_ ?_ ?_ ?_ ?_ ?_ ?_) | (with_reducible refine' q_fn (fq (n_law_draw _ _) ?_) ?_ ?_ ?_) | (with_reducible refine' q_fn (fq (n_law_signed _ _) ?_) ?_ ?_ ?_) | (with_reducible refine' q_fn (fq (n_law_gate _ _) ?_) ?_ ?_ ?_) | (with_reducible refine' q_fn (fq (n_law_under _ _) ?_) ?_ ?_ ?_) | (with_reducible refine' q_fn (fq (n_law_column _ _) ?_) ?_ ?_ ?_) | (with_reducible refine' q_fn (fq (n_law_fixed _ _) ?_) ?_ ?_ ?_) | (with_reducible refine' q_fn (fq (n_law_all_gates _ _) ?_) ?_ ?_ ?_) | (with_reducible refine' q_attr ?_ ?_ ?_ ?_) | (with_reducible refine' q_idxv ?_ ?_ ?_ ?_ ?_ ?_) | (with_reducible refine' T_idx ?_ ?_ ?_ ?_) | (with_reducible refine' T_tup ?_ ?_) | (with_reducible refine' q_lst ?_ ?_) | (with_reducible refine' TL_cons ?_ ?_ ?_) | (with_reducible refine' a_var ?_ ?_ ?_ ?_ ?_) | (with_reducible refine' TA_cons ?_ ?_ ?_) | (with_reducible refine' q_bin ?_ ?_ ?_ ?_) | exact ⟨_, rfl⟩ | exact Nat.le_of_ble_eq_true rfl | exact Or.inl rfl | exact Or.inr rfl | exact Nat.ne_of_beq_eq_false rfl)
section
open PySem PySem.W
structure Ci where
  gs : List (Str × List Int)
  kn : List (List Int × Int)
noncomputable def iD (xs : List Int) : List PyData := xs.map .int
noncomputable def Ci.ks (c : Ci) : List PyData := c.gs.map fun g => .str g.1
noncomputable def Ci.ps (c : Ci) : List PyData := c.gs.map fun g => .tuple (iD g.2)
noncomputable def mkG (f : O) (c : Ci) (r : List O) : List O := f :: .list c.ks :: .list c.ps :: .dt c.kn :: r
noncomputable abbrev cV : V := .circ 1 2 3
theorem idxL_nat {xs : List PyData} {i : Nat} {x : PyData} (h : xs[i]? = some x) (hl : xs.length < 100000) : idxL xs (i : Int) = some x := by
  have hi : i < xs.length := (List.getElem?_eq_some_iff.mp h).1
  unfold idxL pos?
  rw [if_pos (by omega), if_pos (by omega), if_pos (by omega)]
  simpa using h
variable {w : World} {base : Heap} {n : Nat} {f : O} {c : Ci} {r : List O}
theorem kind_c {g : Int} {k : Str} {ps : List Int} (h : c.gs[g.natAbs]? = some (k, ps)) (hl : c.gs.length < 100000) :
    CallOk (cx2 w base) (n + 1) 150 [cV, .d (.int g)] (mkG f c r) (.d (.str k)) (mkG f c r) := by
  have e : idxL c.ks (g.natAbs : Int) = some (.str k) := idxL_nat (by simp [Ci.ks, h]) (by simpa [Ci.ks] using hl)
  refine q_call (Fs := [some cV, some (.d (.int g))]) (fn150 w base) rfl rfl fun B => ?_
  apply Exists.intro
  refine' s_ret (S_ret ?_)
  repeat' (first | exact e | k_upd)
theorem parts_c {g : Int} {k : Str} {ps : List Int} (h : c.gs[g.natAbs]? = some (k, ps)) (hl : c.gs.length < 100000) :
    CallOk (cx2 w base) (n + 1) 157 [cV, .d (.int g)] (mkG f c r) (.d (.tuple (iD ps))) (mkG f c r) := by
  have e : idxL c.ps (g.natAbs : Int) = some (.tuple (iD ps)) := idxL_nat (by simp [Ci.ps, h]) (by simpa [Ci.ps] using hl)
  refine q_call (Fs := [some cV, some (.d (.int g))]) (fn157 w base) rfl rfl fun B => ?_
  apply Exists.intro
  refine' s_ret (S_ret ?_)
  repeat' (first | exact e | k_upd)
theorem szOk_lt {n : Nat} (h : n < 100000) : szOk n = true := by simp [szOk]; omega
theorem lenK {G : List O} {n : Nat} {xs : List PyData} {k : Nat} (h : G[n]? = some (.list xs)) (hk : xs.length = k) (hs : k < 100000) : lenG G (.h n) = some k := by
  unfold lenG
  simp only [h, Option.bind_some]
  rw [hk, szOk_lt hs]; rfl
theorem size_c (hl : c.gs.length < 100000) (h1 : 1 ≤ c.gs.length) : CallOk (cx2 w base) (n + 1) 143 [cV] (mkG f c r) (.d (.int ((c.gs.length - 1 : Nat) : Int))) (mkG f c r) := by
  have e : lenG (mkG f c r) (.h 1) = some c.gs.length := lenK (xs := c.ks) rfl (by simp [Ci.ks]) hl
  have e2 : binI .sub (c.gs.length : Int) 1 = some ((c.gs.length - 1 : Nat) : Int) := by
    show some ((c.gs.length : Int) - 1) = _
    congr 1; omega
  refine q_call (Fs := [some cV]) (fn143 w base) rfl rfl fun B => ?_
  apply Exists.intro
  refine' s_ret (S_ret ?_)
  repeat' (first | exact e | (with_reducible exact e2) | k_upd)
noncomputable def Ci.add (c : Ci) (k : Str) (ps : List Int) : Ci := ⟨c.gs ++ [(k, ps)], c.kn⟩
theorem new_gate_c {k : Str} {ps : List Int} (hl : c.gs.length < 90000) :
    CallOk (cx2 w base) (n + 1) 164 [cV, .d (.str k), .d (.tuple (iD ps))] (mkG f c r) (.d (.int c.gs.length)) (mkG f (c.add k ps) r) := by
  have e1 : szOk c.ks.length = true := szOk_lt (by simp [Ci.ks]; omega)
  have e2 : szOk c.ps.length = true := szOk_lt (by simp [Ci.ps]; omega)
  have e3 : c.ks ++ [.str k] = (c.add k ps).ks := by simp [Ci.ks, Ci.add]
  have e4 : c.ps ++ [.tuple (iD ps)] = (c.add k ps).ps := by simp [Ci.ps, Ci.add]
  have e5 : lenG (mkG f (c.add k ps) r) (.h 1) = some (c.gs.length + 1) := lenK (xs := (c.add k ps).ks) rfl (by simp [Ci.ks, Ci.add]) (by omega)
  have e6 : binI .sub ((c.gs.length + 1 : Nat) : Int) 1 = some (c.gs.length : Int) := by
    show some (((c.gs.length + 1 : Nat) : Int) - 1) = _
    congr 1; omega
  have g1 : (mkG f c r).set 1 (.list (c.ks ++ [.str k])) = f :: .list (c.add k ps).ks :: .list c.ps :: .dt c.kn :: r := by rw [e3]; rfl
  have g2 : (f :: .list (c.add k ps).ks :: .list c.ps :: .dt c.kn :: r : List O).set 2 (.list (c.ps ++ [.tuple (iD ps)])) = mkG f (c.add k ps) r := by rw [e4]; rfl
  refine q_call (Fs := [some cV, some (.d (.str k)), some (.d (.tuple (iD ps)))]) (fn164 w base) rfl rfl fun B => ?_
  apply Exists.intro
  have s1 : TS (cx2 w base) n (scOf fd164 ls164 B) (bd164.getD 0 (.Pass default)) [some cV, some (.d (.str k)), some (.d (.tuple (iD ps)))] (mkG f c r) .next [some cV, some (.d (.str k)), some (.d (.tuple (iD ps)))] (f :: .list (c.add k ps).ks :: .list c.ps :: .dt c.kn :: r) := by
    refine' s_appA (xs := c.ks) ?_ ?_ ?_ ?_ ?_ ?_ ?_ ?_ e1 ?_ ?_ ?_
    repeat' (first | (with_reducible exact g1) | k_upd)
  have s2 : TS (cx2 w base) n (scOf fd164 ls164 B) (bd164.getD 1 (.Pass default)) [some cV, some (.d (.str k)), some (.d (.tuple (iD ps)))] (f :: .list (c.add k ps).ks :: .list c.ps :: .dt c.kn :: r) .next [some cV, some (.d (.str k)), some (.d (.tuple (iD ps)))] (mkG f (c.add k ps) r) := by
    refine' s_appA (xs := c.ps) ?_ ?_ ?_ ?_ ?_ ?_ ?_ ?_ e2 ?_ ?_ ?_
    repeat' (first | (with_reducible exact g2) | k_upd)
  refine' TSs_cons s1 (TSs_cons s2 (s_ret (S_ret ?_)))
  repeat' (first | (with_reducible exact e5) | (with_reducible exact e6) | k_upd)
theorem new_input_c (hl : c.gs.length < 90000) : CallOk (cx2 w base) (n + 2) 171 [cV] (mkG f c r) (.d (.int c.gs.length)) (mkG f (c.add "input" []) r) := by
  have e := new_gate_c (w := w) (base := base) (n := n) (f := f) (r := r) (c := c) (k := "input") (ps := []) hl
  refine q_call (Fs := [some cV]) (fn171 w base) rfl rfl fun B => ?_
  apply Exists.intro
  refine' s_ret (S_ret ?_)
  repeat' (first | exact e | k_upd)
end
section
open PySem PySem.W
theorem asInts_iD : ∀ xs : List Int, asInts (iD xs) = some xs
  | [] => rfl
  | x :: r => by simp only [iD, List.map_cons, asInts, asInt, Option.bind_some]; rw [show List.map PyData.int r = iD r from rfl, asInts_iD r]; rfl

noncomputable def tk (acc : List Int) : List (Int × PyData) := acc.map fun g => (g, .bool true)
noncomputable def addN (acc : List Int) (g : Int) : List Int := if g ∈ acc then acc else acc ++ [g]
theorem tk_any {acc : List Int} {g : Int} : (tk acc).any (fun p => p.1 = g) = decide (g ∈ acc) := by
  rw [Bool.eq_iff_iff]
  simp [tk]
theorem dget_tk {acc : List Int} {g : Int} : (dget (tk acc) g).isSome = decide (g ∈ acc) := by
  rw [Bool.eq_iff_iff]
  simp [dget, tk, Option.isSome_map]
theorem dput_tk {acc : List Int} {g : Int} : dput (tk acc) g (.bool true) = tk (addN acc g) := by
  unfold dput
  rw [tk_any]
  unfold addN
  by_cases h : g ∈ acc
  · simp only [h, decide_true, if_true]
    simp only [tk, List.map_map]
    refine List.map_congr_left fun x _ => ?_
    simp only [Function.comp]
    split <;> rfl
  · simp only [h, decide_false, if_false, Bool.false_eq_true]
    simp [tk]
theorem tk_length {acc : List Int} : (tk acc).length = acc.length := by simp [tk]
theorem tk_fst {acc : List Int} : (tk acc).map (·.1) = acc := by
  simp only [tk, List.map_map]
  rw [show ((fun x : Int × PyData => x.1) ∘ fun g => (g, PyData.bool true)) = id from rfl, List.map_id]
theorem addN_length {acc : List Int} {g : Int} : (addN acc g).length ≤ acc.length + 1 := by
  unfold addN; split <;> simp
theorem mem_addN {acc : List Int} {g x : Int} : x ∈ addN acc g ↔ x ∈ acc ∨ x = g := by
  unfold addN
  split
  · constructor
    · exact .inl
    · rintro (h | rfl) <;> assumption
  · simp
theorem nodup_addN {acc : List Int} {g : Int} (h : acc.Nodup) : (addN acc g).Nodup := by
  unfold addN
  split
  · exact h
  · rw [List.nodup_append]
    refine ⟨h, by simp, ?_⟩
    intro a ha b hb e
    simp at hb
    subst hb; subst e
    contradiction

/-- what all_of's loop keeps; none: a contradiction -/
noncomputable def aoF : List Int → List Int → Option (List Int)
  | acc, [] => some acc
  | acc, g :: r => if g = -1 ∨ -g ∈ acc then none else if g = 1 then aoF acc r else aoF (addN acc g) r

theorem eqv_int (a b : Int) : PyData.eqv (.int a) (.int b) = decide (a = b) := by
  simp only [PyData.eqv]
  rfl
theorem okD_int (a : Int) : okD (.int a) = true := by rfl

/-- what all_of gives, and the circuit behind it -/
noncomputable def allOf (c : Ci) (lits : List Int) : Int × Ci := match aoF [] lits with
  | none => (-1, c)
  | some acc => match sortI acc with
    | [] => (1, c)
    | [g] => (g, c)
    | ps => match dgetT c.kn ps with
      | some v => (v, c)
      | none => (((c.gs.length : Nat) : Int), ⟨c.gs ++ [(("and" : Str), ps)], c.kn ++ [(ps, ((c.gs.length : Nat) : Int))]⟩)

theorem insI_length (x : Int) : ∀ l : List Int, (insI x l).length = l.length + 1
  | [] => rfl
  | y :: r => by unfold insI; split <;> simp [insI_length x r]
theorem sortI_length : ∀ l : List Int, (sortI l).length = l.length
  | [] => rfl
  | x :: r => by unfold sortI; rw [insI_length, sortI_length r]; rfl
theorem aoF_length : ∀ (lits acc acc' : List Int), aoF acc lits = some acc' → acc'.length ≤ acc.length + lits.length
  | [], acc, acc', h => by cases h; simp
  | g :: r, acc, acc', h => by
    unfold aoF at h
    split at h
    · cases h
    · have := addN_length (acc := acc) (g := g)
      split at h
      · have := aoF_length r _ _ h; simp only [List.length_cons]; omega
      · have := aoF_length r _ _ h; simp only [List.length_cons]; omega
theorem dgetT_put {kn : List (List Int × Int)} {k : List Int} {v : Int} (h : dgetT kn k = none) : dputT kn k v = kn ++ [(k, v)] ∧ dgetT (kn ++ [(k, v)]) k = some v := by
  have h' : kn.find? (fun p => p.1 = k) = none := by simpa [dgetT] using h
  have ha : kn.any (fun p => p.1 = k) = false := by
    rw [List.any_eq_false]
    intro x hx
    exact List.find?_eq_none.mp h' x hx
  refine ⟨?_, ?_⟩
  · unfold dputT; rw [ha]; rfl
  · simp [dgetT, List.find?_append, h']

theorem eqD_int (a b : Int) : eqD (.int a) (.int b) = some (decide (a = b)) := by
  unfold eqD
  rw [okD_int, okD_int, eqv_int]; rfl
theorem eqD_t {a b : Int} (h : a = b) : eqD (.int a) (.int b) = some true := by rw [eqD_int, decide_eq_true h]
theorem eqD_f {a b : Int} (h : a ≠ b) : eqD (.int a) (.int b) = some false := by rw [eqD_int, decide_eq_false h]
theorem itemsV_lt (X : PyData) (lits : List Int) (hX : X = .list (iD lits) ∨ X = .tuple (iD lits)) : itemsV (.d X) = some (iD lits) := by
  rcases hX with rfl | rfl <;> rfl
noncomputable def forBody : Stmt → List Stmt
  | .For _ _ b _ _ => b
  | _ => []
noncomputable def ifThen : Stmt → List Stmt
  | .If _ a _ _ => a
  | _ => []
variable {w : World} {base : Heap} {n : Nat} {f : O} {c : Ci} {r : List O} {G : List O}
noncomputable def fb178 : List Stmt := forBody (bd178.getD 1 (.Pass default))
theorem ao_body1 {B : Heap} {X y : Option V} {acc : List Int} {g : Int} (h : g = -1 ∨ -g ∈ acc) :
    TSs (cx2 w base) n (scOf fd178 ls178 B) fb178 [some cV, X, some (.od (tk acc)), some (.d (.int g)), y] G (.ret (.d (.int (-1)))) [some cV, X, some (.od (tk acc)), some (.d (.int g)), y] G := by
  by_cases h1 : g = -1
  · have e1 := eqD_t h1
    refine' s_ret (s_if_t (b_or_t ?_) (s_ret (S_ret ?_)))
    repeat' (first | (with_reducible exact e1) | k_upd)
  · have e1 := eqD_f h1
    have e2 : inG G (.int (-g)) (.od (tk acc)) = some true := congrArg some (dget_tk.trans (decide_eq_true (h.resolve_left h1)))
    refine' s_ret (s_if_t (b_or_f ?_ ?_) (s_ret (S_ret ?_)))
    repeat' (first | (with_reducible exact e1) | (with_reducible exact e2) | k_upd)
theorem ao_body2 {B : Heap} {X y : Option V} {acc : List Int} {g : Int} (h : ¬ (g = -1 ∨ -g ∈ acc)) (hl : acc.length < 1000) :
    TSs (cx2 w base) n (scOf fd178 ls178 B) fb178 [some cV, X, some (.od (tk acc)), some (.d (.int g)), y] G .next [some cV, X, some (.od (tk (if g = 1 then acc else addN acc g))), some (.d (.int g)), y] G := by
  have es : szOk (tk acc).length = true := szOk_lt (by rw [tk_length]; omega)
  have e1 := eqD_f fun q => h (.inl q)
  have e2 : inG G (.int (-g)) (.od (tk acc)) = some false := congrArg some (dget_tk.trans (decide_eq_false fun q => h (.inr q)))
  by_cases h3 : g = 1
  · have e3 : eqD (.int g) (.int 1) = some (!false) := eqD_t h3
    rw [if_pos h3]
    refine' TSs_cons (s_if_f (b_or_f ?_ ?_) TSs_nil) (TSs_cons (s_if_f ?_ TSs_nil) TSs_nil)
    repeat' (first | (with_reducible exact e1) | (with_reducible exact e2) | (with_reducible exact e3) | k_upd)
  · have e3 : eqD (.int g) (.int 1) = some (!true) := eqD_f h3
    have e4 : dput (tk acc) g (.bool true) = tk (addN acc g) := dput_tk
    rw [if_neg h3]
    refine' TSs_cons (s_if_f (b_or_f ?_ ?_) TSs_nil) (TSs_cons (s_if_t ?_ (TSs_cons (s_setV ?_ ?_ ?_ ?_ ?_ ?_ es ?_ ?_) TSs_nil)) TSs_nil)
    repeat' (first | (with_reducible exact e1) | (with_reducible exact e2) | (with_reducible exact e3) | (with_reducible exact e4) | k_upd)
theorem ao_loop {B : Heap} {X : Option V} : ∀ (lits : List Int) (acc : List Int) (y : Option V), acc.length + lits.length < 1000 →
    match aoF acc lits with
    | none => ∃ F', ForR (cx2 w base) n (scOf fd178 ls178 B) (.one 3) fb178 (iD lits) [some cV, X, some (.od (tk acc)), y, none] G (.ret (.d (.int (-1)))) F' G
    | some acc' => ∃ y', ForR (cx2 w base) n (scOf fd178 ls178 B) (.one 3) fb178 (iD lits) [some cV, X, some (.od (tk acc)), y, none] G .next [some cV, X, some (.od (tk acc')), y', none] G
  | [], acc, y, _ => ⟨y, .nil⟩
  | g :: r, acc, y, hl => by
    have hl1 : acc.length + r.length + 1 < 1000 := by simpa [Nat.add_assoc] using hl
    unfold aoF
    by_cases h : g = -1 ∨ -g ∈ acc
    · rw [if_pos h]
      exact ⟨_, .ret rfl (ao_body1 h)⟩
    · rw [if_neg h]
      have := addN_length (acc := acc) (g := g)
      have b := ao_body2 (w := w) (base := base) (n := n) (B := B) (X := X) (y := none) (G := G) h (by omega)
      by_cases h1 : g = 1
      · rw [if_pos h1]
        rw [if_pos h1] at b
        have ih := ao_loop (B := B) (X := X) r acc (some (.d (.int g))) (by omega)
        revert ih
        cases aoF acc r with
        | none => exact fun ⟨F', e⟩ => ⟨F', .turn rfl b (.inl rfl) e⟩
        | some acc' => exact fun ⟨y', e⟩ => ⟨y', .turn rfl b (.inl rfl) e⟩
      · rw [if_neg h1]
        rw [if_neg h1] at b
        have ih := ao_loop (B := B) (X := X) r (addN acc g) (some (.d (.int g))) (by omega)
        revert ih
        cases aoF (addN acc g) r with
        | none => exact fun ⟨F', e⟩ => ⟨F', .turn rfl b (.inl rfl) e⟩
        | some acc' => exact fun ⟨y', e⟩ => ⟨y', .turn rfl b (.inl rfl) e⟩
theorem all_of_c {lits : List Int} {X : PyData} (hX : X = .list (iD lits) ∨ X = .tuple (iD lits)) (hl : c.gs.length < 50000) (hk : c.kn.length < 50000) (hn : lits.length < 64) :
    CallOk (cx2 w base) (n + 2) 178 [cV, .d X] (mkG f c r) (.d (.int (allOf c lits).1)) (mkG f (allOf c lits).2 r) := by
  refine q_call (Fs := [some cV, some (.d X), none, none, none]) (fn178 w base) rfl rfl fun B => ?_
  have L := ao_loop (w := w) (base := base) (n := n + 1) (B := B) (X := some (.d X)) (G := mkG f c r) lits [] none (by simp; omega)
  have L1 := aoF_length lits []
  have e0 := itemsV_lt X lits hX
  have hv : mvF [some cV, some (.d X), some (.od []), none, none] 1 (.d X) = some (.d X, [some cV, some (.d X), some (.od []), none, none]) := rfl
  unfold allOf
  revert L L1
  cases h : aoF [] lits with
  | none =>
    intro L _
    obtain ⟨F', L⟩ := L
    apply Exists.intro
    refine' TSs_cons (F₁ := [some cV, some (.d X), some (.od []), none, none]) (s_asgO ?_ ?_ ?_ TO_dict0 ?_) (s_ret (s_for ?_ ?_ ?_ e0 L ?_))
    repeat' (first | (with_reducible exact hv) | k_upd)
  | some acc =>
    intro L L1
    obtain ⟨y', L⟩ := L
    have hlen := L1 acc rfl
    simp only [List.length_nil] at hlen
    have hs : acc.length < 64 := by omega
    have hsl := sortI_length acc
    have e3 : (sortI ((tk acc).map (·.1))).map PyData.int = iD (sortI acc) := by rw [tk_fst]; rfl
    have e4 : (tk acc).length < 64 := by rw [tk_length]; exact hs
    have el : szOk (iD (sortI acc)).length = true := szOk_lt (by simp [iD, hsl]; omega)
    have el2 : lenG (mkG f c r) (.d (.tuple (iD (sortI acc)))) = some (sortI acc).length := by
      show (if szOk (iD (sortI acc)).length then some (iD (sortI acc)).length else none) = _
      rw [el]; simp [iD]
    generalize hps : sortI acc = ps at *
    -- the first three statements
    have s3 : ∀ (F' : Fr') (G' : List O) (v : V), TSs (cx2 w base) (n + 1) (scOf fd178 ls178 B) (bd178.drop 3) [some cV, some (.d X), some (.od (tk acc)), y', some (.d (.tuple (iD ps)))] (mkG f c r) (.ret v) F' G' →
        TSs (cx2 w base) (n + 1) (scOf fd178 ls178 B) bd178 [some cV, some (.d X), none, none, none] (mkG f c r) (.ret v) F' G' := fun F' G' v hrest => by
      refine' TSs_cons (F₁ := [some cV, some (.d X), some (.od []), none, none]) (s_asgO ?_ ?_ ?_ TO_dict0 ?_) (TSs_cons (s_for ?_ ?_ ?_ e0 L ?_) (TSs_cons (s_asg ?_ ?_ ?_ (T_tuple (bq ?_ ?_) ?_ (q_sortedv (bq ?_ ?_) ?_ ?_ (.inr ⟨_, .inl rfl, e4, rfl⟩) e3) el) ?_) hrest))
      repeat' (first | (with_reducible exact hv) | k_upd)
    match ps, hsl, el, el2, s3 with
    | [], _, el, el2, s3 =>
      have e5 : decide (((([] : List Int).length : Nat) : Int) < 2) = true := rfl
      have e6 : eqD (.int ((([] : List Int).length : Nat) : Int)) (.int 1) = some false := eqD_f (by decide)
      simp only [hps]
      apply Exists.intro
      apply s3
      refine' s_ret (s_if_t ?_ (s_ret (S_ret (q_ite_f ?_ ?_))))
      repeat' (first | (with_reducible exact el2) | (with_reducible exact e5) | (with_reducible exact e6) | k_upd)
    | [g], _, el, el2, s3 =>
      have e5 : decide ((([g].length : Nat) : Int) < 2) = true := rfl
      have e6 : eqD (.int (([g].length : Nat) : Int)) (.int 1) = some true := eqD_t rfl
      simp only [hps]
      apply Exists.intro
      apply s3
      refine' s_ret (s_if_t ?_ (s_ret (S_ret (q_ite_t ?_ ?_))))
      repeat' (first | (with_reducible exact el2) | (with_reducible exact e5) | (with_reducible exact e6) | k_upd)
    | a :: b :: t, hsl, el, el2, s3 =>
      have e5 : decide ((((a :: b :: t).length : Nat) : Int) < 2) = false := decide_eq_false (by simp only [List.length_cons]; omega)
      have en := new_gate_c (w := w) (base := base) (n := n) (f := f) (r := r) (k := "and") (ps := a :: b :: t) (c := c) (by omega)
      have ea : asInts (iD (a :: b :: t)) = some (a :: b :: t) := asInts_iD _
      have ek : szOk c.kn.length = true := szOk_lt (by omega)
      cases hd : dgetT c.kn (a :: b :: t) with
      | none =>
        obtain ⟨d1, d2⟩ := dgetT_put (v := ((c.gs.length : Nat) : Int)) hd
        have e7 : inG (mkG f c r) (.tuple (iD (a :: b :: t))) (.h 3) = some (!true) := by
          show (asInts (iD (a :: b :: t))).map (fun q => (dgetT c.kn q).isSome) = _
          rw [ea]; simp [hd]
        have e8 : setO (.tuple (iD (a :: b :: t))) (.int ((c.gs.length : Nat) : Int)) (.dt c.kn) = some (.dt (c.kn ++ [(a :: b :: t, ((c.gs.length : Nat) : Int))])) := by
          show (asInts (iD (a :: b :: t))).bind (fun q => if szOk c.kn.length then some (O.dt (dputT c.kn q _)) else none) = _
          rw [ea, ek]; simp [d1]
        have e9 : idxG (mkG f ⟨c.gs ++ [(("and" : Str), a :: b :: t)], c.kn ++ [(a :: b :: t, ((c.gs.length : Nat) : Int))]⟩ r) (.tuple (iD (a :: b :: t))) (.h 3) = some (.int ((c.gs.length : Nat) : Int)) := by
          show (asInts (iD (a :: b :: t))).bind (fun q => (dgetT (c.kn ++ [(a :: b :: t, ((c.gs.length : Nat) : Int))]) q).map PyData.int) = _
          rw [ea]; simp [d2]
        have e10 : (mkG f (c.add "and" (a :: b :: t)) r).set 3 (.dt (c.kn ++ [(a :: b :: t, ((c.gs.length : Nat) : Int))])) = mkG f ⟨c.gs ++ [(("and" : Str), a :: b :: t)], c.kn ++ [(a :: b :: t, ((c.gs.length : Nat) : Int))]⟩ r := rfl
        simp only [hps, hd]
        apply Exists.intro
        apply s3
        refine' TSs_cons (s_if_f ?_ TSs_nil) (TSs_cons (s_if_t ?_ (TSs_cons (s_setA ?_ ?_ ?_ ?_ ?_ ?_ ?_ ?_ ?_ e8 e10) TSs_nil)) (s_ret (S_ret ?_)))
        repeat' (first | (with_reducible exact el2) | (with_reducible exact e5) | (with_reducible exact e7) | (with_reducible exact en) | (with_reducible exact e9) | k_upd)
      | some v =>
        have e7 : inG (mkG f c r) (.tuple (iD (a :: b :: t))) (.h 3) = some (!false) := by
          show (asInts (iD (a :: b :: t))).map (fun q => (dgetT c.kn q).isSome) = _
          rw [ea]; simp [hd]
        have e9 : idxG (mkG f c r) (.tuple (iD (a :: b :: t))) (.h 3) = some (.int v) := by
          show (asInts (iD (a :: b :: t))).bind (fun q => (dgetT c.kn q).map PyData.int) = _
          rw [ea]; simp [hd]
        simp only [hps, hd]
        apply Exists.intro
        apply s3
        refine' TSs_cons (s_if_f ?_ TSs_nil) (TSs_cons (s_if_f ?_ TSs_nil) (s_ret (S_ret ?_)))
        repeat' (first | (with_reducible exact el2) | (with_reducible exact e5) | (with_reducible exact e7) | (with_reducible exact e9) | k_upd)
end
section
open PySem PySem.W
theorem allOf_len (c : Ci) (lits : List Int) : c.gs.length ≤ (allOf c lits).2.gs.length ∧ (allOf c lits).2.gs.length ≤ c.gs.length + 1 ∧ (allOf c lits).2.kn.length ≤ c.kn.length + 1 := by
  unfold allOf
  split
  · simp
  · split
    · simp
    · simp
    · split <;> simp

noncomputable def impl (c : Ci) (a b : Int) : Int × Ci := (-(allOf c [a, -b]).1, (allOf c [a, -b]).2)
noncomputable def iffC (c : Ci) (a b : Int) : Int × Ci := allOf (impl (impl c a b).2 b a).2 [(impl c a b).1, (impl (impl c a b).2 b a).1]
noncomputable def unlikeC (c : Ci) (a b : Int) : Int × Ci := (-(iffC c a b).1, (iffC c a b).2)
noncomputable def chooseC (c : Ci) (x a b : Int) : Int × Ci := allOf (impl (impl c x a).2 (-x) b).2 [(impl c x a).1, (impl (impl c x a).2 (-x) b).1]
noncomputable def anyOf (c : Ci) (lits : List Int) : Int × Ci := (-(allOf c (lits.map (- ·))).1, (allOf c (lits.map (- ·))).2)

theorem impl_len (c : Ci) (a b : Int) : c.gs.length ≤ (impl c a b).2.gs.length ∧ (impl c a b).2.gs.length ≤ c.gs.length + 1 ∧ (impl c a b).2.kn.length ≤ c.kn.length + 1 := allOf_len c _
variable {w : World} {base : Heap} {n : Nat} {f : O} {c : Ci} {r : List O} {G : List O}
theorem ao2_c (a b : Int) (hl : c.gs.length < 50000) (hk : c.kn.length < 50000) : CallOk (cx2 w base) (n + 2) 178 [cV, .d (.tuple [.int a, .int b])] (mkG f c r) (.d (.int (allOf c [a, b]).1)) (mkG f (allOf c [a, b]).2 r) :=
  all_of_c (lits := [a, b]) (.inr rfl) hl hk (by simp)
theorem both_c (a b : Int) (hl : c.gs.length < 50000) (hk : c.kn.length < 50000) :
    CallOk (cx2 w base) (n + 3) 190 [cV, .d (.int a), .d (.int b)] (mkG f c r) (.d (.int (allOf c [a, b]).1)) (mkG f (allOf c [a, b]).2 r) := by
  have e := ao2_c (w := w) (base := base) (n := n) (f := f) (r := r) a b hl hk
  refine q_call (Fs := [some cV, some (.d (.int a)), some (.d (.int b))]) (fn190 w base) rfl rfl fun B => ?_
  apply Exists.intro
  refine' s_ret (S_ret ?_)
  repeat' (first | (with_reducible exact e) | k_upd)
theorem implies_c (a b : Int) (hl : c.gs.length < 50000) (hk : c.kn.length < 50000) :
    CallOk (cx2 w base) (n + 3) 204 [cV, .d (.int a), .d (.int b)] (mkG f c r) (.d (.int (impl c a b).1)) (mkG f (impl c a b).2 r) := by
  have e := ao2_c (w := w) (base := base) (n := n) (f := f) (r := r) a (-b) hl hk
  unfold impl
  refine q_call (Fs := [some cV, some (.d (.int a)), some (.d (.int b))]) (fn204 w base) rfl rfl fun B => ?_
  apply Exists.intro
  refine' s_ret (S_ret ?_)
  repeat' (first | (with_reducible exact e) | k_upd)
theorem iff_c (a b : Int) (hl : c.gs.length < 40000) (hk : c.kn.length < 40000) :
    CallOk (cx2 w base) (n + 4) 211 [cV, .d (.int a), .d (.int b)] (mkG f c r) (.d (.int (iffC c a b).1)) (mkG f (iffC c a b).2 r) := by
  have h1 := impl_len c a b
  have h2 := impl_len (impl c a b).2 b a
  have e1 := implies_c (w := w) (base := base) (n := n) (f := f) (r := r) (c := c) a b (by omega) (by omega)
  have e2 := implies_c (w := w) (base := base) (n := n) (f := f) (r := r) (c := (impl c a b).2) b a (by omega) (by omega)
  have e := ao2_c (w := w) (base := base) (n := n + 1) (f := f) (r := r) (c := (impl (impl c a b).2 b a).2) (impl c a b).1 (impl (impl c a b).2 b a).1 (by omega) (by omega)
  unfold iffC
  refine q_call (Fs := [some cV, some (.d (.int a)), some (.d (.int b))]) (fn211 w base) rfl rfl fun B => ?_
  apply Exists.intro
  refine' s_ret (S_ret ?_)
  repeat' (first | (with_reducible exact e1) | (with_reducible exact e2) | (with_reducible exact e) | k_upd)
theorem unlike_c (a b : Int) (hl : c.gs.length < 40000) (hk : c.kn.length < 40000) :
    CallOk (cx2 w base) (n + 5) 218 [cV, .d (.int a), .d (.int b)] (mkG f c r) (.d (.int (unlikeC c a b).1)) (mkG f (unlikeC c a b).2 r) := by
  have e := iff_c (w := w) (base := base) (n := n) (f := f) (r := r) (c := c) a b hl hk
  unfold unlikeC
  refine q_call (Fs := [some cV, some (.d (.int a)), some (.d (.int b))]) (fn218 w base) rfl rfl fun B => ?_
  apply Exists.intro
  refine' s_ret (S_ret ?_)
  repeat' (first | (with_reducible exact e) | k_upd)
theorem choose_c (x a b : Int) (hl : c.gs.length < 40000) (hk : c.kn.length < 40000) :
    CallOk (cx2 w base) (n + 4) 225 [cV, .d (.int x), .d (.int a), .d (.int b)] (mkG f c r) (.d (.int (chooseC c x a b).1)) (mkG f (chooseC c x a b).2 r) := by
  have h1 := impl_len c x a
  have h2 := impl_len (impl c x a).2 (-x) b
  have e1 := implies_c (w := w) (base := base) (n := n) (f := f) (r := r) (c := c) x a (by omega) (by omega)
  have e2 := implies_c (w := w) (base := base) (n := n) (f := f) (r := r) (c := (impl c x a).2) (-x) b (by omega) (by omega)
  have e := ao2_c (w := w) (base := base) (n := n + 1) (f := f) (r := r) (c := (impl (impl c x a).2 (-x) b).2) (impl c x a).1 (impl (impl c x a).2 (-x) b).1 (by omega) (by omega)
  unfold chooseC
  refine q_call (Fs := [some cV, some (.d (.int x)), some (.d (.int a)), some (.d (.int b))]) (fn225 w base) rfl rfl fun B => ?_
  apply Exists.intro
  refine' s_ret (S_ret ?_)
  repeat' (first | (with_reducible exact e1) | (with_reducible exact e2) | (with_reducible exact e) | k_upd)
theorem any_of_c (lits : List Int) (hl : c.gs.length < 50000) (hk : c.kn.length < 50000) (hn : lits.length < 64) :
    CallOk (cx2 w base) (n + 3) 183 [cV, .d (.list (iD lits))] (mkG f c r) (.d (.int (anyOf c lits).1)) (mkG f (anyOf c lits).2 r) := by
  have e := all_of_c (w := w) (base := base) (n := n) (f := f) (r := r) (c := c) (lits := lits.map (- ·)) (.inl rfl) hl hk (by simpa using hn)
  unfold anyOf
  refine q_call (Fs := [some cV, some (.d (.list (iD lits)))]) (fn183 w base) rfl rfl fun B => ?_
  apply Exists.intro
  have es : szOk (iD (lits.map (- ·))).length = true := szOk_lt (by simp [iD]; omega)
  have hv : itemsV (.d (.list (iD lits))) = some (iD lits) := rfl
  refine' s_ret (S_ret (T_neg (q_mc (m_all_of _ _) ?_ (TA_cons ?_ (q_comp (core1 (own := 1) ?_ ?_ hv ?_ (fun B => rfl) (fun B => .inl rfl) ?_ ?_ es) ?_ ?_) TA_nil) e ?_ ?_ ?_ ?_ ?_)))
  repeat' (first  | k_upd)
  refine (show lits.map (fun i => PyData.int (-i)) = iD (lits.map (- ·)) by simp [iD]) ▸ steps_pure (g := PyData.int) (h := fun i => PyData.int (-i)) lits fun x _ => ⟨_, _, rfl, fun B' => ?_, rfl⟩
  repeat' (first  | k_upd)
end
section
open PySem PySem.W
/-- the feed -/
noncomputable def feO (cells : List Int) (k : Nat) : O := .ds [("cells", .list (iD cells)), ("at", .int k)]
theorem fmod_nat (a : Int) {w : Nat} (h : 0 < w) : ∃ d : Nat, d < w ∧ a.fmod w = d := by
  have h1 := Int.fmod_nonneg_of_pos a (b := (w : Int)) (by omega)
  have h2 := Int.fmod_lt_of_pos a (b := (w : Int)) (by omega)
  exact ⟨(a.fmod w).toNat, by omega, by omega⟩
variable {w : World} {base : Heap} {n : Nat} {c : Ci} {r : List O} {G : List O} {cells : List Int}
theorem modF {a b : Int} (h : b ≠ 0) : binI .mod a b = some (a.fmod b) := if_pos h
theorem mulF {a b : Int} (h : b.natAbs < 2 ^ 62) : binI .mul a b = some (a * b) := if_pos (by unfold mulOk; simp; right; omega)
theorem fd_set (k : Nat) : setO (.str "at") (.int ((k + 1 : Nat) : Int)) (feO cells k) = some (feO cells (k + 1)) := by rfl
theorem fd_at (k : Nat) : idxG (mkG (feO cells k) c r) (.str "at") (.h 0) = some (.int k) := by rfl
theorem fd_cells (k : Nat) : idxG (mkG (feO cells k) c r) (.str "cells") (.h 0) = some (.list (iD cells)) := by rfl
theorem draw_c {k m : Nat} (hw : 0 < m) (hc : cells.length ≤ 63) (hk : k < 10000) :
    ∃ d : Nat, d < m ∧ ∀ (w : World) (base : Heap) n c r, CallOk (cx2 w base) (n + 1) 239 [.h 0, .d (.int m)] (mkG (feO cells k) c r) (.d (.int d)) (mkG (feO cells (k + 1)) c r) := by
  have hw0 : ¬ (m : Int) = 0 := by omega
  have el : ∀ G : List O, lenG G (.d (.list (iD cells))) = some cells.length := fun G => by
    show (if szOk (iD cells).length then some (iD cells).length else none) = _
    rw [szOk_lt (by simp [iD]; omega)]; simp [iD]
  have ea : binI .add (k : Int) 1 = some ((k + 1 : Nat) : Int) := rfl
  by_cases h : k < cells.length
  · obtain ⟨d, hd, e⟩ := fmod_nat (cells[k]) hw
    refine ⟨d, hd, fun w base n c r => ?_⟩
    have ei : ∀ G : List O, idxG G (.int (k : Int)) (.d (.list (iD cells))) = some (.int cells[k]) := fun G => idxL_nat (by simp [iD, h]) (by simp [iD]; omega)
    have e5 : decide ((k : Int) < (cells.length : Int)) = true := decide_eq_true (by omega)
    have e6 : binI .mod cells[k] (m : Int) = some (d : Int) := by rw [modF hw0, e]
    refine q_call (Fs := [some (.h 0), some (.d (.int m)), none]) (fn239 w base) rfl rfl fun B => ?_
    apply Exists.intro
    refine' TSs_cons (F₁ := [some (.h 0), some (.d (.int m)), some (.d (.int k))]) (s_asg ?_ ?_ ?_ ?_ ?_) (TSs_cons (G₁ := mkG (feO cells (k + 1)) c r) (s_setN ?_ ?_ ?_ ?_ ?_ ?_ (fd_set k) ?_) (s_ret (s_if_t ?_ (s_ret (S_ret ?_)))))
    repeat' (first | (with_reducible exact fd_at k) | (with_reducible exact fd_cells _) | (with_reducible exact ea) | (with_reducible exact el _) | (with_reducible exact ei _) | (with_reducible exact e5) | (with_reducible exact e6) | k_upd)
  · obtain ⟨d, hd, e⟩ := fmod_nat ((5 * (k : Int) * k + 9 * k + 2 * cells.length + 3).fmod 89) hw
    refine ⟨d, hd, fun w base n c r => ?_⟩
    have e5 : decide ((k : Int) < (cells.length : Int)) = false := decide_eq_false (by omega)
    have m1 : ∀ a : Int, binI .mul a (k : Int) = some (a * k) := fun a => mulF (by omega)
    have m2 : binI .mul 2 (cells.length : Int) = some (2 * (cells.length : Int)) := mulF (by omega)
    have e6 : binI .mod (5 * (k : Int) * k + 9 * k + 2 * cells.length + 3) 89 = some ((5 * (k : Int) * k + 9 * k + 2 * cells.length + 3).fmod 89) := modF (by decide)
    have e7 : binI .mod ((5 * (k : Int) * k + 9 * k + 2 * cells.length + 3).fmod 89) (m : Int) = some (d : Int) := by rw [modF hw0, e]
    refine q_call (Fs := [some (.h 0), some (.d (.int m)), none]) (fn239 w base) rfl rfl fun B => ?_
    apply Exists.intro
    refine' TSs_cons (F₁ := [some (.h 0), some (.d (.int m)), some (.d (.int k))]) (s_asg ?_ ?_ ?_ ?_ ?_) (TSs_cons (G₁ := mkG (feO cells (k + 1)) c r) (s_setN ?_ ?_ ?_ ?_ ?_ ?_ (fd_set k) ?_) (TSs_cons (s_if_f ?_ TSs_nil) (s_ret (S_ret ?_))))
    repeat' (first | (with_reducible exact fd_at k) | (with_reducible exact fd_cells _) | (with_reducible exact ea) | (with_reducible exact el _) | (with_reducible exact e5) | (with_reducible exact m1 _) | (with_reducible exact m2) | (with_reducible exact e6) | (with_reducible exact e7) | k_upd)
/-- a literal of a gate that is no constant, under a bound -/
noncomputable def lit2 (b : Nat) (g : Int) : Prop := 2 ≤ g.natAbs ∧ g.natAbs < b
theorem signed_c {k : Nat} {gates : List Int} {b : Nat} (hg : ∀ g ∈ gates, lit2 b g) (h0 : 0 < gates.length) (hgl : gates.length < 1000) (hc : cells.length ≤ 63) (hk : k < 9000) :
    ∃ g, lit2 b g ∧ ∀ (w : World) (base : Heap) n c r, CallOk (cx2 w base) (n + 2) 246 [.h 0, .rl (iD gates)] (mkG (feO cells k) c r) (.d (.int g)) (mkG (feO cells (k + 2)) c r) := by
  obtain ⟨d, hd, e1⟩ := draw_c (cells := cells) (k := k) (m := gates.length) h0 hc (by omega)
  obtain ⟨d2, hd2, e2⟩ := draw_c (cells := cells) (k := k + 1) (m := 2) (by omega) hc (by omega)
  refine ⟨if d2 = 0 then gates[d] else -gates[d], ?_, fun w base n c r => ?_⟩
  · have := hg gates[d] (List.getElem_mem _)
    unfold lit2 at *
    split <;> omega
  · have ei : ∀ G : List O, idxG G (.int (d : Int)) (.rl (iD gates)) = some (.int gates[d]) := fun G => idxL_nat (by simp [iD, hd]) (by simp [iD]; omega)
    have el : ∀ G : List O, lenG G (.rl (iD gates)) = some gates.length := fun G => by
      show (if szOk (iD gates).length then some (iD gates).length else none) = _
      rw [szOk_lt (by simp [iD]; omega)]; simp [iD]
    have e1' := e1 w base n c r
    have e2' : CallOk (cx2 w base) (n + 1) 239 [.h 0, .d (.int 2)] (mkG (feO cells (k + 1)) c r) (.d (.int d2)) (mkG (feO cells (k + 2)) c r) := e2 w base n c r
    refine q_call (Fs := [some (.h 0), some (.rl (iD gates)), none]) (fn246 w base) rfl rfl fun B => ?_
    apply Exists.intro
    by_cases h : d2 = 0
    · have e3 : eqD (.int (d2 : Int)) (.int 0) = some true := eqD_t (by omega)
      rw [if_pos h]
      refine' TSs_cons (F₁ := [some (.h 0), some (.rl (iD gates)), some (.d (.int gates[d]))]) (s_asg ?_ ?_ ?_ ?_ ?_) (s_ret (S_ret (q_ite_t ?_ ?_)))
      repeat' (first | (with_reducible exact ei _) | (with_reducible exact el _) | (with_reducible exact e1') | (with_reducible exact e2') | (with_reducible exact e3) | k_upd)
    · have e3 : eqD (.int (d2 : Int)) (.int 0) = some false := eqD_f (by omega)
      rw [if_neg h]
      refine' TSs_cons (F₁ := [some (.h 0), some (.rl (iD gates)), some (.d (.int gates[d]))]) (s_asg ?_ ?_ ?_ ?_ ?_) (s_ret (S_ret (q_ite_f ?_ ?_)))
      repeat' (first | (with_reducible exact ei _) | (with_reducible exact el _) | (with_reducible exact e1') | (with_reducible exact e2') | (with_reducible exact e3) | k_upd)
end
section
open PySem PySem.W

structure WfC (c : Ci) : Prop where
  z : c.gs[0]? = some (("" : Str), [])
  o : c.gs[1]? = some (("true" : Str), [])
  g : ∀ (i : Nat) (k : Str) (ps : List Int), 2 ≤ i → c.gs[i]? = some (k, ps) → (k = ("input" : Str) ∧ ps = []) ∨ (k = ("and" : Str) ∧ 2 ≤ ps.length ∧ ps.length ≤ 3 ∧ ∀ p ∈ ps, 2 ≤ p.natAbs ∧ p.natAbs < i)
  kn : ∀ (ps : List Int) (v : Int), dgetT c.kn ps = some v → ∃ i : Nat, v = i ∧ 2 ≤ i ∧ c.gs[i]? = some (("and" : Str), ps)
structure Ext (c c' : Ci) : Prop where
  pre : ∀ (i : Nat) (g : Str × List Int), c.gs[i]? = some g → c'.gs[i]? = some g
  kn : ∀ (k : List Int) (v : Int), dgetT c.kn k = some v → dgetT c'.kn k = some v
theorem Ext.refl (c : Ci) : Ext c c := ⟨fun _ _ h => h, fun _ _ h => h⟩
theorem Ext.trans {a b c : Ci} (x : Ext a b) (y : Ext b c) : Ext a c := ⟨fun i g h => y.pre i g (x.pre i g h), fun k v h => y.kn k v (x.kn k v h)⟩
theorem Ext.len {c c' : Ci} (x : Ext c c') : c.gs.length ≤ c'.gs.length := by
  by_cases h : c.gs.length = 0
  · omega
  · have := x.pre (c.gs.length - 1) (c.gs[c.gs.length - 1]'(by omega)) (List.getElem?_eq_getElem _)
    have := (List.getElem?_eq_some_iff.mp this).1
    omega
theorem WfC.len {c : Ci} (w : WfC c) : 2 ≤ c.gs.length := by
  have := (List.getElem?_eq_some_iff.mp w.o).1
  omega

noncomputable def kids (c : Ci) (g : Nat) : List Nat := match c.gs[g]? with
  | some x => x.2.map Int.natAbs
  | none => []
theorem kids_of {c : Ci} {g : Nat} {k : Str} {ps : List Int} (h : c.gs[g]? = some (k, ps)) : kids c g = ps.map Int.natAbs := by unfold kids; rw [h]
theorem kids_lt {c : Ci} (w : WfC c) {g p : Nat} (h : p ∈ kids c g) : 2 ≤ p ∧ p < g := by
  unfold kids at h
  split at h
  · rename_i x hx
    obtain ⟨k, ps⟩ := x
    by_cases h2 : 2 ≤ g
    · rcases w.g g k ps h2 hx with ⟨_, rfl⟩ | ⟨_, _, _, q⟩
      · simp at h
      · simp only [List.mem_map] at h
        obtain ⟨i, hi, rfl⟩ := h
        exact q i hi
    · have : g = 0 ∨ g = 1 := by omega
      rcases this with rfl | rfl
      · rw [w.z] at hx; cases hx; simp at h
      · rw [w.o] at hx; cases hx; simp at h
  · simp at h
theorem kids_ext {c c' : Ci} (x : Ext c c') {g : Nat} (h : g < c.gs.length) : kids c' g = kids c g := by
  unfold kids
  rw [x.pre g _ (List.getElem?_eq_getElem h), List.getElem?_eq_getElem h]

inductive Rch (c : Ci) : Nat → Nat → Prop
  | refl (g) : Rch c g g
  | step {g p h} : p ∈ kids c g → Rch c p h → Rch c g h
theorem Rch.trans {c : Ci} {a b d : Nat} (x : Rch c a b) (y : Rch c b d) : Rch c a d := by
  induction x with
  | refl => exact y
  | step h _ ih => exact .step h (ih y)
theorem Rch.le {c : Ci} (w : WfC c) {a b : Nat} (x : Rch c a b) : b ≤ a := by
  induction x with
  | refl => exact Nat.le_refl _
  | step h _ ih => have := kids_lt w h; omega
theorem Rch.two {c : Ci} (w : WfC c) {a b : Nat} (x : Rch c a b) (h : 2 ≤ a) : 2 ≤ b := by
  induction x with
  | refl => exact h
  | step h' _ ih => exact ih (kids_lt w h').1
theorem Rch.ext {c c' : Ci} (w : WfC c) (x : Ext c c') {a b : Nat} (ha : a < c.gs.length) : Rch c' a b ↔ Rch c a b := by
  constructor
  · intro h
    induction h with
    | refl => exact .refl _
    | step h _ ih =>
      rw [kids_ext x ha] at h
      exact .step h (ih (by have := kids_lt w h; omega))
  · intro h
    induction h with
    | refl => exact .refl _
    | step h _ ih =>
      exact .step (by rw [kids_ext x ha]; exact h) (ih (by have := kids_lt w h; omega))
theorem Rch.cases' {c : Ci} {a b : Nat} (h : Rch c a b) : b = a ∨ ∃ p ∈ kids c a, Rch c p b := by
  cases h with
  | refl => exact .inl rfl
  | step h q => exact .inr ⟨_, h, q⟩

/-! values -/
noncomputable def vlf (c : Ci) (ρ : Nat → Bool) : Nat → Nat → Bool
  | 0, _ => true
  | n + 1, i => match c.gs[i]? with
    | none => true
    | some (k, ps) => if k = ("input" : Str) then ρ i else ps.all fun p => if 0 < p then vlf c ρ n p.natAbs else !vlf c ρ n p.natAbs
noncomputable def vl (c : Ci) (ρ : Nat → Bool) (i : Nat) : Bool := vlf c ρ (i + 1) i
noncomputable def lv (c : Ci) (ρ : Nat → Bool) (p : Int) : Bool := if 0 < p then vl c ρ p.natAbs else !vl c ρ p.natAbs
theorem kid_lt {c : Ci} (w : WfC c) {i : Nat} {k : Str} {ps : List Int} (h : c.gs[i]? = some (k, ps)) {p : Int} (hp : p ∈ ps) : 2 ≤ p.natAbs ∧ p.natAbs < i :=
  kids_lt w (by rw [kids_of h]; exact List.mem_map_of_mem hp)
theorem all_congr' {f g : α → Bool} : ∀ {l : List α}, (∀ x ∈ l, f x = g x) → l.all f = l.all g
  | [], _ => rfl
  | a :: l, h => by simp only [List.all_cons]; rw [h a (.head _), all_congr' fun x hx => h x (.tail _ hx)]
theorem vlf_eq {c : Ci} (w : WfC c) (ρ : Nat → Bool) : ∀ (n m i : Nat), i < n → i < m → vlf c ρ n i = vlf c ρ m i
  | 0, _, _, h, _ => by omega
  | _ + 1, 0, _, _, h => by omega
  | n + 1, m + 1, i, h1, h2 => by
    unfold vlf
    cases h : c.gs[i]? with
    | none => rfl
    | some x =>
      obtain ⟨k, ps⟩ := x
      simp only
      split
      · rfl
      · refine all_congr' fun p hp => ?_
        have := kid_lt w h hp
        rw [vlf_eq w ρ n m p.natAbs (by omega) (by omega)]
theorem vl_in {c : Ci} {ρ : Nat → Bool} {i : Nat} {ps : List Int} (h : c.gs[i]? = some (("input" : Str), ps)) : vl c ρ i = ρ i := by
  unfold vl vlf; rw [h]; simp
theorem vl_and {c : Ci} (w : WfC c) {ρ : Nat → Bool} {i : Nat} {k : Str} {ps : List Int} (h : c.gs[i]? = some (k, ps)) (hk : k ≠ ("input" : Str)) : vl c ρ i = ps.all (lv c ρ) := by
  unfold vl vlf; rw [h]; simp only [if_neg hk]
  refine all_congr' fun p hp => ?_
  have := kid_lt w h hp
  unfold lv vl
  rw [vlf_eq w ρ i (p.natAbs + 1) p.natAbs (by omega) (by omega)]
theorem vl_one {c : Ci} (w : WfC c) {ρ : Nat → Bool} : vl c ρ 1 = true := by
  rw [vl_and w w.o (by decide)]; rfl
theorem vl_ext {c c' : Ci} (w : WfC c) (w' : WfC c') (x : Ext c c') (ρ : Nat → Bool) : ∀ (n i : Nat), i < n → i < c.gs.length → vl c' ρ i = vl c ρ i
  | 0, _, h, _ => by omega
  | n + 1, i, h, hl => by
    have hg : c.gs[i]? = some (c.gs[i].1, c.gs[i].2) := List.getElem?_eq_getElem hl
    by_cases hk : c.gs[i].1 = ("input" : Str)
    · rw [hk] at hg
      rw [vl_in hg, vl_in (x.pre _ _ hg)]
    · rw [vl_and w hg hk, vl_and w' (x.pre _ _ hg) hk]
      refine all_congr' fun p hp => ?_
      have := kid_lt w hg hp
      unfold lv
      rw [vl_ext w w' x ρ n p.natAbs (by omega) (by omega)]
theorem lv_ext {c c' : Ci} (w : WfC c) (w' : WfC c') (x : Ext c c') (ρ : Nat → Bool) {p : Int} (h : p.natAbs < c.gs.length) : lv c' ρ p = lv c ρ p := by
  unfold lv; rw [vl_ext w w' x ρ _ _ (Nat.lt_succ_self _) h]
theorem lv_neg {c : Ci} {ρ : Nat → Bool} {p : Int} (h : p ≠ 0) : lv c ρ (-p) = !lv c ρ p := by
  unfold lv
  rw [Int.natAbs_neg]
  by_cases h1 : 0 < p
  · rw [if_pos h1, if_neg (by omega)]
  · rw [if_neg h1, if_pos (by omega)]; simp
theorem lv_one {c : Ci} (w : WfC c) {ρ : Nat → Bool} : lv c ρ 1 = true := by
  unfold lv; exact vl_one w

/-! all_of -/
theorem mem_insI {x y : Int} : ∀ {l : List Int}, y ∈ insI x l ↔ y = x ∨ y ∈ l
  | [] => by simp [insI]
  | z :: r => by
    unfold insI
    split
    · simp
    · simp only [List.mem_cons, mem_insI (l := r)]
      constructor
      · rintro (h | h | h)
        · exact .inr (.inl h)
        · exact .inl h
        · exact .inr (.inr h)
      · rintro (h | h | h)
        · exact .inr (.inl h)
        · exact .inl h
        · exact .inr (.inr h)
theorem mem_sortI {y : Int} : ∀ {l : List Int}, y ∈ sortI l ↔ y ∈ l
  | [] => Iff.rfl
  | x :: r => by unfold sortI; rw [mem_insI, mem_sortI, List.mem_cons]
theorem aoF_some : ∀ {lits acc acc' : List Int}, aoF acc lits = some acc' → (∀ x, x ∈ acc' ↔ x ∈ acc ∨ (x ∈ lits ∧ x ≠ 1)) ∧ -1 ∉ lits
  | [], acc, acc', h => by cases h; simp
  | g :: r, acc, acc', h => by
    unfold aoF at h
    split at h
    · cases h
    · rename_i hn
      have hn1 : g ≠ -1 := fun e => hn (.inl e)
      split at h
      · rename_i h1
        obtain ⟨q1, q2⟩ := aoF_some h
        refine ⟨fun x => ?_, ?_⟩
        · rw [q1]; subst h1
          simp only [List.mem_cons]
          constructor
          · rintro (h | ⟨h, e⟩)
            · exact .inl h
            · exact .inr ⟨.inr h, e⟩
          · rintro (h | ⟨h | h, e⟩)
            · exact .inl h
            · exact absurd h e
            · exact .inr ⟨h, e⟩
        · simp only [List.mem_cons, not_or]
          exact ⟨fun e => hn1 e.symm, q2⟩
      · rename_i h1
        obtain ⟨q1, q2⟩ := aoF_some h
        refine ⟨fun x => ?_, ?_⟩
        · rw [q1, mem_addN]
          simp only [List.mem_cons]
          constructor
          · rintro ((h | rfl) | ⟨h, e⟩)
            · exact .inl h
            · exact .inr ⟨.inl rfl, h1⟩
            · exact .inr ⟨.inr h, e⟩
          · rintro (h | ⟨rfl | h, e⟩)
            · exact .inl (.inl h)
            · exact .inl (.inr rfl)
            · exact .inr ⟨h, e⟩
        · simp only [List.mem_cons, not_or]
          exact ⟨fun e => hn1 e.symm, q2⟩
theorem aoF_none : ∀ {lits acc : List Int}, aoF acc lits = none → -1 ∈ lits ∨ ∃ g ∈ lits, -g ∈ acc ∨ -g ∈ lits
  | [], acc, h => by cases h
  | g :: r, acc, h => by
    unfold aoF at h
    split at h
    · rename_i hn
      rcases hn with rfl | hn
      · exact .inl (.head _)
      · exact .inr ⟨g, .head _, .inl hn⟩
    · have key : ∀ acc' : List Int, (∀ x, x ∈ acc' → x ∈ acc ∨ x = g) → (-1 ∈ r ∨ ∃ g ∈ r, -g ∈ acc' ∨ -g ∈ r) → -1 ∈ g :: r ∨ ∃ g' ∈ g :: r, -g' ∈ acc ∨ -g' ∈ g :: r := by
        intro acc' ha hq
        rcases hq with q | ⟨g', h1, h2 | h2⟩
        · exact .inl (.tail _ q)
        · rcases ha _ h2 with q | q
          · exact .inr ⟨g', .tail _ h1, .inl q⟩
          · exact .inr ⟨g', .tail _ h1, .inr (q ▸ .head _)⟩
        · exact .inr ⟨g', .tail _ h1, .inr (.tail _ h2)⟩
      split at h
      · exact key acc (fun x hx => .inl hx) (aoF_none h)
      · exact key (addN acc g) (fun x hx => mem_addN.mp hx) (aoF_none h)

/-- what a result of all_of is -/
noncomputable def AoRes (c' : Ci) (lits : List Int) (v : Int) : Prop :=
  v = -1 ∨ v = 1 ∨ (v ∈ lits ∧ 2 ≤ v.natAbs) ∨ ∃ (i : Nat) (ps : List Int), v = i ∧ 2 ≤ i ∧ c'.gs[i]? = some (("and" : Str), ps) ∧ ∀ p ∈ ps, p ∈ lits ∧ 2 ≤ p.natAbs
structure AoOk (c : Ci) (lits : List Int) (v : Int) (c' : Ci) : Prop where
  w : WfC c'
  x : Ext c c'
  v1 : 1 ≤ v.natAbs
  v2 : v.natAbs < c'.gs.length
  sem : ∀ ρ, lv c' ρ v = lits.all (lv c ρ)
  res : AoRes c' lits v
  inp : ∀ (i : Nat) (ps : List Int), c'.gs[i]? = some (("input" : Str), ps) → c.gs[i]? = some (("input" : Str), ps)
  len : c'.gs.length ≤ c.gs.length + 1
  kln : c'.kn.length ≤ c.kn.length + 1

theorem all_false {f : α → Bool} {l : List α} {x : α} (h : x ∈ l) (e : f x = false) : l.all f = false := by
  rw [List.all_eq_false]; exact ⟨x, h, by rw [e]; simp⟩
theorem allOf_ok {c : Ci} (w : WfC c) {lits : List Int} (hl : ∀ g ∈ lits, 1 ≤ g.natAbs ∧ g.natAbs < c.gs.length) (h3 : lits.length ≤ 3) : AoOk c lits (allOf c lits).1 (allOf c lits).2 := by
  have hlen := w.len
  have hL := allOf_len c lits
  have l1 : ∀ ρ, lv c ρ 1 = true := fun ρ => lv_one w
  have lm : ∀ ρ, lv c ρ (-1) = false := fun ρ => by rw [lv_neg (by decide), l1]; rfl
  have inp0 : ∀ (i : Nat) (ps : List Int), c.gs[i]? = some (("input" : Str), ps) → c.gs[i]? = some (("input" : Str), ps) := fun _ _ h => h
  revert hL
  unfold allOf
  cases h : aoF [] lits with
  | none =>
    intro hL
    refine ⟨w, .refl c, Nat.le_refl 1, by show 1 < _; omega, fun ρ => ?_, .inl rfl, inp0, hL.2.1, hL.2.2⟩
    show lv c ρ (-1) = _
    rw [lm]
    rcases aoF_none h with q | ⟨g, hg, q | q⟩
    · exact (all_false q (lm ρ)).symm
    · simp at q
    · have hg0 := (hl g hg).1
      cases e : lv c ρ g with
      | false => exact (all_false hg e).symm
      | true => exact (all_false q (by rw [lv_neg (by omega), e]; rfl)).symm
  | some acc =>
    obtain ⟨q1, q2⟩ := aoF_some h
    have hm : ∀ x, x ∈ sortI acc ↔ x ∈ lits ∧ x ≠ 1 := fun x => by rw [mem_sortI, q1]; simp
    have hn : (sortI acc).length ≤ 3 := by
      have := aoF_length _ _ _ h
      simp only [List.length_nil] at this
      rw [sortI_length]; omega
    have h2 : ∀ x ∈ sortI acc, 2 ≤ x.natAbs := fun x hx => by
      have := (hm x).mp hx
      have h1 := (hl x this.1).1
      by_cases e : x.natAbs = 1
      · have : x = 1 ∨ x = -1 := by omega
        rcases this with rfl | rfl
        · exact absurd rfl this.2
        · exact absurd this.1 q2
      · omega
    have sem : ∀ ρ, lits.all (lv c ρ) = (sortI acc).all (lv c ρ) := fun ρ => by
      rw [Bool.eq_iff_iff, List.all_eq_true, List.all_eq_true]
      constructor
      · intro h x hx; exact h x ((hm x).mp hx).1
      · intro h x hx
        by_cases e : x = 1
        · rw [e]; exact l1 ρ
        · exact h x ((hm x).mpr ⟨hx, e⟩)
    simp only
    generalize sortI acc = ps at *
    match ps, hn with
    | [], _ =>
      intro hL
      exact ⟨w, .refl c, Nat.le_refl 1, by show 1 < _; omega, fun ρ => by rw [sem]; exact l1 ρ, .inr (.inl rfl), inp0, hL.2.1, hL.2.2⟩
    | [g], _ =>
      intro hL
      have hg := (hm g).mp (.head _)
      exact ⟨w, .refl c, by have := hl g hg.1; show 1 ≤ g.natAbs; omega, (hl g hg.1).2, fun ρ => by rw [sem]; simp, .inr (.inr (.inl ⟨hg.1, h2 g (.head _)⟩)), inp0, hL.2.1, hL.2.2⟩
    | a :: b :: t, hn =>
      simp only
      have hp : ∀ p ∈ a :: b :: t, p ∈ lits ∧ 2 ≤ p.natAbs := fun p hp => ⟨((hm p).mp hp).1, h2 p hp⟩
      cases hd : dgetT c.kn (a :: b :: t) with
      | some v =>
        intro hL
        obtain ⟨i, rfl, hi, hg⟩ := w.kn _ _ hd
        refine ⟨w, .refl c, by show 1 ≤ i; omega, (List.getElem?_eq_some_iff.mp hg).1, fun ρ => ?_, .inr (.inr (.inr ⟨i, _, rfl, hi, hg, hp⟩)), inp0, hL.2.1, hL.2.2⟩
        rw [sem]
        show lv c ρ (i : Int) = _
        unfold lv
        rw [if_pos (by omega)]
        exact vl_and w hg (by decide)
      | none =>
        intro hL
        obtain ⟨_, d2⟩ := dgetT_put (v := ((c.gs.length : Nat) : Int)) hd
        have x : Ext c ⟨c.gs ++ [(("and" : Str), a :: b :: t)], c.kn ++ [(a :: b :: t, ((c.gs.length : Nat) : Int))]⟩ := by
          refine ⟨fun i g h => ?_, fun k v h => ?_⟩
          · show (c.gs ++ _)[i]? = some g
            rw [List.getElem?_append_left (List.getElem?_eq_some_iff.mp h).1]; exact h
          · show dgetT (c.kn ++ _) k = some v
            unfold dgetT at h ⊢
            rw [List.find?_append]
            cases hf : c.kn.find? (fun p => p.1 = k) with
            | none => rw [hf] at h; cases h
            | some p => rw [hf] at h; exact h
        have hnew : (c.gs ++ [(("and" : Str), a :: b :: t)])[c.gs.length]? = some (("and" : Str), a :: b :: t) := by simp
        have w' : WfC ⟨c.gs ++ [(("and" : Str), a :: b :: t)], c.kn ++ [(a :: b :: t, ((c.gs.length : Nat) : Int))]⟩ := by
          refine ⟨x.pre _ _ w.z, x.pre _ _ w.o, fun i k ps hi hg => ?_, fun ps v hv => ?_⟩
          · by_cases hlt : i < c.gs.length
            · have hg : (c.gs ++ [(("and" : Str), a :: b :: t)])[i]? = some (k, ps) := hg
              rw [List.getElem?_append_left hlt] at hg
              exact w.g i k ps hi hg
            · have hg : (c.gs ++ [(("and" : Str), a :: b :: t)])[i]? = some (k, ps) := hg
              have hle := (List.getElem?_eq_some_iff.mp hg).1
              simp only [List.length_append, List.length_cons, List.length_nil] at hle
              have : i = c.gs.length := by omega
              subst this
              rw [hnew] at hg; cases hg
              refine .inr ⟨rfl, by simp, hn, fun p h => ⟨(hp p h).2, (hl p (hp p h).1).2⟩⟩
          · by_cases e : ps = a :: b :: t
            · subst e
              have hv : dgetT (c.kn ++ [(a :: b :: t, ((c.gs.length : Nat) : Int))]) (a :: b :: t) = some v := hv
              rw [d2] at hv; cases hv
              exact ⟨c.gs.length, rfl, hlen, hnew⟩
            · have hv : dgetT (c.kn ++ [(a :: b :: t, ((c.gs.length : Nat) : Int))]) ps = some v := hv
              unfold dgetT at hv
              rw [List.find?_append] at hv
              cases hf : c.kn.find? (fun p => p.1 = ps) with
              | none => rw [hf] at hv; simp [Ne.symm e] at hv
              | some p =>
                rw [hf] at hv
                obtain ⟨i, h1, h2, h3⟩ := w.kn ps v (by unfold dgetT; rw [hf]; exact hv)
                exact ⟨i, h1, h2, x.pre _ _ h3⟩
        refine ⟨w', x, by show 1 ≤ c.gs.length; omega, by show c.gs.length < (c.gs ++ _).length; simp, fun ρ => ?_, .inr (.inr (.inr ⟨c.gs.length, _, rfl, hlen, hnew, hp⟩)), fun i ps h => ?_, hL.2.1, hL.2.2⟩
        · rw [sem]
          show lv _ ρ (c.gs.length : Int) = _
          rw [show lv _ ρ (c.gs.length : Int) = vl _ ρ c.gs.length from if_pos (by omega), vl_and w' hnew (by decide)]
          refine all_congr' fun p hp' => ?_
          exact lv_ext w w' x ρ (hl p (hp p hp').1).2
        · by_cases hlt : i < c.gs.length
          · have hg : (c.gs ++ [(("and" : Str), a :: b :: t)])[i]? = some (("input" : Str), ps) := h
            rw [List.getElem?_append_left hlt] at hg
            exact hg
          · have hg : (c.gs ++ [(("and" : Str), a :: b :: t)])[i]? = some (("input" : Str), ps) := h
            have hle := (List.getElem?_eq_some_iff.mp hg).1
            simp only [List.length_append, List.length_cons, List.length_nil] at hle
            have : i = c.gs.length := by omega
            subst this
            rw [hnew] at hg
            have := congrArg (fun o => o.map (·.1)) hg
            simp at this
            exact absurd this (by decide)
theorem allOf_again {c c'' : Ci} {lits : List Int} (x : Ext (allOf c lits).2 c'') : allOf c'' lits = ((allOf c lits).1, c'') := by
  revert x
  unfold allOf
  cases h : aoF [] lits with
  | none => intro _; rfl
  | some acc =>
    simp only
    generalize sortI acc = ps at *
    match ps with
    | [] => intro _; rfl
    | [g] => intro _; rfl
    | a :: b :: t =>
      simp only
      cases hd : dgetT c.kn (a :: b :: t) with
      | some v => intro x; simp only; rw [x.kn _ _ hd]
      | none =>
        intro x
        simp only
        rw [x.kn _ _ (dgetT_put hd).2]
end
section
open PySem PySem.W

theorem kids_mem {c : Ci} {g : Nat} {k : Str} {ps : List Int} (h : c.gs[g]? = some (k, ps)) {p : Nat} : p ∈ kids c g ↔ ∃ i ∈ ps, i.natAbs = p := by
  rw [kids_of h, List.mem_map]
theorem rch_one {c : Ci} (w : WfC c) {h : Nat} (x : Rch c 1 h) : h = 1 := by
  rcases x.cases' with e | ⟨p, hp, _⟩
  · exact e
  · rw [kids_of w.o] at hp; simp at hp
theorem AoRes.rch {c' : Ci} (w : WfC c') {lits : List Int} {v : Int} (a : AoRes c' lits v) {h : Nat} (x : Rch c' v.natAbs h) : h = v.natAbs ∨ ∃ g ∈ lits, Rch c' g.natAbs h := by
  rcases a with rfl | rfl | ⟨hv, _⟩ | ⟨i, ps, rfl, hi, hg, hp⟩
  · exact .inl (rch_one w x)
  · exact .inl (rch_one w x)
  · exact .inr ⟨v, hv, x⟩
  · rcases x.cases' with e | ⟨p, hp', y⟩
    · exact .inl e
    · obtain ⟨q, hq, rfl⟩ := (kids_mem (show c'.gs[(i : Int).natAbs]? = _ from hg)).mp hp'
      exact .inr ⟨q, (hp q hq).1, y⟩
noncomputable def isIn (c : Ci) (h : Nat) : Prop := c.gs[h]? = some (("input" : Str), [])
theorem WfC.in_nil {c : Ci} (w : WfC c) {i : Nat} {ps : List Int} (h : c.gs[i]? = some (("input" : Str), ps)) : isIn c i ∧ 2 ≤ i := by
  by_cases h2 : 2 ≤ i
  · rcases w.g i _ ps h2 h with ⟨_, rfl⟩ | ⟨e, _⟩
    · exact ⟨h, h2⟩
    · exact absurd e (by decide)
  · have : i = 0 ∨ i = 1 := by omega
    rcases this with rfl | rfl
    · rw [w.z] at h; have := congrArg (fun o => o.map (·.1)) h; simp at this; exact absurd this (by decide)
    · rw [w.o] at h; have := congrArg (fun o => o.map (·.1)) h; simp at this; exact absurd this (by decide)
theorem AoRes.inp {c' : Ci} (w : WfC c') {lits : List Int} {v : Int} (a : AoRes c' lits v) {h : Nat} (hi : isIn c' h) (x : Rch c' v.natAbs h) : ∃ g ∈ lits, Rch c' g.natAbs h := by
  rcases a.rch w x with e | q
  · have h2 := (w.in_nil hi).2
    rcases a with rfl | rfl | ⟨hv, _⟩ | ⟨i, ps, rfl, _, hg, hp⟩
    · exfalso; subst e; exact absurd h2 (by decide)
    · exfalso; subst e; exact absurd h2 (by decide)
    · exact ⟨v, hv, x⟩
    · exfalso
      have := hi
      unfold isIn at this
      rw [e, show ((i : Int).natAbs) = i from rfl, hg] at this
      have := congrArg (fun o => o.map (·.1)) this; simp at this; exact absurd this (by decide)
  · exact q
/-- an input stands under each gate that is no constant -/
theorem has_input {c : Ci} (w : WfC c) : ∀ (n g : Nat), g < n → 2 ≤ g → g < c.gs.length → ∃ h, isIn c h ∧ Rch c g h
  | 0, _, h, _, _ => by omega
  | n + 1, g, h, h2, hl => by
    have hg : c.gs[g]? = some (c.gs[g].1, c.gs[g].2) := List.getElem?_eq_getElem hl
    rcases w.g g _ _ h2 hg with ⟨e1, e2⟩ | ⟨_, hlen, _, hp⟩
    · rw [e1] at hg
      exact ⟨g, (w.in_nil hg).1, .refl g⟩
    · have hm : c.gs[g].2[0] ∈ c.gs[g].2 := List.getElem_mem (by omega)
      have q := hp _ hm
      obtain ⟨h, h1, h2⟩ := has_input w n (c.gs[g].2[0]).natAbs (by omega) q.1 (by omega)
      exact ⟨h, h1, .step ((kids_mem hg).mpr ⟨_, hm, rfl⟩) h2⟩

/-- a gate told by the circuit -/
structure GOk (m : Nat) (c : Ci) (v : Int) (c' : Ci) : Prop where
  w : WfC c'
  x : Ext c c'
  v1 : 1 ≤ v.natAbs
  v2 : v.natAbs < c'.gs.length
  inp : ∀ (i : Nat) (ps : List Int), c'.gs[i]? = some (("input" : Str), ps) → c.gs[i]? = some (("input" : Str), ps)
  len : c'.gs.length ≤ c.gs.length + m
  kln : c'.kn.length ≤ c.kn.length + m
theorem AoOk.g {c c' : Ci} {lits : List Int} {v : Int} (a : AoOk c lits v c') : GOk 1 c v c' := ⟨a.w, a.x, a.v1, a.v2, a.inp, a.len, a.kln⟩
theorem GOk.mono {c c' : Ci} {v : Int} {m k : Nat} (a : GOk m c v c') (h : m ≤ k) : GOk k c v c' := ⟨a.w, a.x, a.v1, a.v2, a.inp, by have := a.len; omega, by have := a.kln; omega⟩
theorem GOk.neg {c c' : Ci} {v : Int} {m : Nat} (a : GOk m c v c') : GOk m c (-v) c' := ⟨a.w, a.x, by rw [Int.natAbs_neg]; exact a.v1, by rw [Int.natAbs_neg]; exact a.v2, a.inp, a.len, a.kln⟩
theorem GOk.then {c c' c'' : Ci} {v u : Int} {m k : Nat} (a : GOk m c v c') (b : GOk k c' u c'') : GOk (m + k) c u c'' :=
  ⟨b.w, a.x.trans b.x, b.v1, b.v2, fun i ps h => a.inp i ps (b.inp i ps h), by have := a.len; have := b.len; omega, by have := a.kln; have := b.kln; omega⟩
/-- a literal of a circuit -/
noncomputable def litC (c : Ci) (g : Int) : Prop := 1 ≤ g.natAbs ∧ g.natAbs < c.gs.length
theorem litC.ext {c c' : Ci} (x : Ext c c') {g : Int} (h : litC c g) : litC c' g := ⟨h.1, Nat.lt_of_lt_of_le h.2 x.len⟩
theorem litC.neg {c : Ci} {g : Int} (h : litC c g) : litC c (-g) := by unfold litC at *; rw [Int.natAbs_neg]; exact h
theorem GOk.lit {c c' : Ci} {v : Int} {m : Nat} (a : GOk m c v c') : litC c' v := ⟨a.v1, a.v2⟩
theorem ao2 {c : Ci} (w : WfC c) {a b : Int} (ha : litC c a) (hb : litC c b) : GOk 1 c (allOf c [a, b]).1 (allOf c [a, b]).2 :=
  (allOf_ok w (lits := [a, b]) (fun g hg => by
    rcases List.mem_cons.mp hg with rfl | hg
    · exact ha
    · rcases List.mem_cons.mp hg with rfl | hg
      · exact hb
      · cases hg) (by simp)).g
theorem impl_ok {c : Ci} (w : WfC c) {a b : Int} (ha : litC c a) (hb : litC c b) : GOk 1 c (impl c a b).1 (impl c a b).2 := (ao2 w ha hb.neg).neg
theorem iff_ok {c : Ci} (w : WfC c) {a b : Int} (ha : litC c a) (hb : litC c b) : GOk 3 c (iffC c a b).1 (iffC c a b).2 := by
  have h1 := impl_ok w ha hb
  have h2 := impl_ok h1.w (hb.ext h1.x) (ha.ext h1.x)
  exact (h1.then h2).then (ao2 h2.w (h1.lit.ext h2.x) h2.lit)
theorem unlike_ok {c : Ci} (w : WfC c) {a b : Int} (ha : litC c a) (hb : litC c b) : GOk 3 c (unlikeC c a b).1 (unlikeC c a b).2 := (iff_ok w ha hb).neg
theorem choose_ok {c : Ci} (w : WfC c) {x a b : Int} (hx : litC c x) (ha : litC c a) (hb : litC c b) : GOk 3 c (chooseC c x a b).1 (chooseC c x a b).2 := by
  have h1 := impl_ok w hx ha
  have h2 := impl_ok h1.w (hx.neg.ext h1.x) (hb.ext h1.x)
  exact (h1.then h2).then (ao2 h2.w (h1.lit.ext h2.x) h2.lit)
theorem anyOf_ok {c : Ci} (w : WfC c) {lits : List Int} (h : ∀ g ∈ lits, litC c g) (h3 : lits.length ≤ 3) : GOk 1 c (anyOf c lits).1 (anyOf c lits).2 :=
  (allOf_ok w (lits := lits.map (- ·)) (fun g hg => by
    obtain ⟨x, hx, rfl⟩ := List.mem_map.mp hg
    exact (h x hx).neg) (by simpa using h3)).g.neg

variable {w : World} {base : Heap} {n : Nat} {c : Ci} {r : List O} {G : List O} {cells : List Int}
theorem itemsV_rng {m : Nat} (h : m ≤ 4000000) : itemsV (.rng 0 m) = some ((List.range m).map fun i => .int (i : Nat)) := by
  show (if -4000000 ≤ (0 : Int) ∧ (0 : Int) ≤ 4000000 ∧ -4000000 ≤ (m : Int) ∧ (m : Int) ≤ 4000000 then some ((List.range ((m : Int) - 0).toNat).map fun i => PyData.int (0 + (i : Nat))) else none) = _
  rw [if_pos (by omega)]
  simp
/-- _law_gate's drawn literals -/
theorem gate_steps {gates : List Int} {b : Nat} (hg : ∀ g ∈ gates, lit2 b g) (h0 : 0 < gates.length) (hgl : gates.length < 1000) (hc : cells.length ≤ 63) :
    ∀ (xs : List PyData) (k : Nat), k + 2 * xs.length < 9000 → ∃ L : List Int, L.length = xs.length ∧ (∀ g ∈ L, lit2 b g) ∧ ∀ (stp : PyData → List O → List PyData → List O → Prop) (c : Ci) (r : List O),
      (∀ x k g, lit2 b g → (∀ (w : World) (base : Heap) n, CallOk (cx2 w base) (n + 2) 246 [.h 0, .rl (iD gates)] (mkG (feO cells k) c r) (.d (.int g)) (mkG (feO cells (k + 2)) c r)) → stp x (mkG (feO cells k) c r) [.int g] (mkG (feO cells (k + 2)) c r)) →
        Steps stp xs (mkG (feO cells k) c r) (iD L) (mkG (feO cells (k + 2 * xs.length)) c r)
  | [], k, _ => ⟨[], rfl, by simp, fun _ _ _ _ => .nil⟩
  | x :: xs, k, hk => by
    simp only [List.length_cons] at hk
    obtain ⟨g, h1, h2⟩ := signed_c (cells := cells) (k := k) hg h0 hgl hc (by omega)
    obtain ⟨L, l1, l2, l3⟩ := gate_steps hg h0 hgl hc xs (k + 2) (by omega)
    refine ⟨g :: L, by simp [l1], ?_, fun stp c r hs => ?_⟩
    · intro u hu
      rcases List.mem_cons.mp hu with rfl | hu
      · exact h1
      · exact l2 u hu
    · have e := Steps.cons (hs x k g h1 fun w base n => h2 w base n c r) (l3 stp c r hs)
      rw [List.length_cons, show k + 2 * (xs.length + 1) = k + 2 + 2 * xs.length by omega]
      exact e
end
section
open PySem PySem.W
variable {n : Nat} {c : Ci} {r : List O} {G : List O} {cells : List Int}
theorem idx_nat (L : List Int) (i : Nat) (h : i < L.length) (hl : L.length < 100000) : idxL (iD L) (i : Int) = some (.int L[i]) := idxL_nat (by simp [iD, h]) (by simpa [iD] using hl)
/-- _law_gate's first two statements -/
theorem gate_pre {w : World} {base : Heap} {B : Heap} {gates L : List Int} {d k k1 m : Nat} {xs : List PyData} (hd : (d < 2 ∧ ∃ d2 : Nat, m = 2 + d2 ∧ CallOk (cx2 w base) (n + 2) 239 [.h 0, .d (.int 2)] (mkG (feO cells (k + 1)) c r) (.d (.int d2)) (mkG (feO cells k1) c r)) ∨ (2 ≤ d ∧ k1 = k + 1 ∧ m = if d = 3 then 3 else 2))
    (e1 : CallOk (cx2 w base) (n + 2) 239 [.h 0, .d (.int 5)] (mkG (feO cells k) c r) (.d (.int d)) (mkG (feO cells (k + 1)) c r)) (hx : itemsV (.rng 0 (m : Int)) = some xs) (es : szOk (iD L).length = true)
    (hst : ∀ (stp : PyData → List O → List PyData → List O → Prop), (∀ x k g, (∀ (w : World) (base : Heap) n, CallOk (cx2 w base) (n + 2) 246 [.h 0, .rl (iD gates)] (mkG (feO cells k) c r) (.d (.int g)) (mkG (feO cells (k + 2)) c r)) → stp x (mkG (feO cells k) c r) [.int g] (mkG (feO cells (k + 2)) c r)) → Steps stp xs (mkG (feO cells k1) c r) (iD L) G)
    {v : V} {F' : Fr'} {G' : List O} (rest : TSs (cx2 w base) (n + 2) (scOf fd251 ls251 B) (bd251.drop 2) [some (.h 0), some cV, some (.rl (iD gates)), some (.d (.int d)), some (.d (.list (iD L)))] G (.ret v) F' G') :
    TSs (cx2 w base) (n + 2) (scOf fd251 ls251 B) bd251 [some (.h 0), some cV, some (.rl (iD gates)), none, none] (mkG (feO cells k) c r) (.ret v) F' G' := by
  refine' TSs_cons (F₁ := [some (.h 0), some cV, some (.rl (iD gates)), some (.d (.int d)), none]) (s_asg ?_ ?_ ?_ ?_ ?_) (TSs_cons (s_comp ?_ ?_ (core1 (own := 1) (v := .rng 0 (m : Int)) ?_ (T_range1 (bq ?_ ?_) ?_ ?it) hx ?_ (fun B => rfl) (fun B => .inl rfl) ?_ ?hst es) ?_ ?_ ?_) rest)
  case it =>
    rcases hd with ⟨h2, d2, rfl, e2⟩ | ⟨h2, rfl, rfl⟩
    · have c1 : eqD (.int (d : Int)) (.int 3) = some false := eqD_f (by omega)
      have c2 : decide ((d : Int) < 2) = true := decide_eq_true (by omega)
      have c3 : binI .add 2 (if false = true then 1 else 0) = some 2 := rfl
      have c4 : binI .add 2 (d2 : Int) = some ((2 + d2 : Nat) : Int) := by
        show some (2 + (d2 : Int)) = _
        rw [Int.natCast_add]; rfl
      refine' q_bin ?_ (q_bin ?_ ?_ ?_ c3) (q_ite_t ?_ ?_) c4
      repeat' (first | (with_reducible exact c1) | (with_reducible exact c2) | (with_reducible exact e2) | k_upd)
    · have c2 : decide ((d : Int) < 2) = false := decide_eq_false (by omega)
      by_cases h3 : d = 3
      · subst h3
        have c3 : binI .add 2 (if true = true then 1 else 0) = some 3 := rfl
        have c4 : binI .add 3 0 = some ((3 : Nat) : Int) := rfl
        have c1 : eqD (.int ((3 : Nat) : Int)) (.int 3) = some true := eqD_t rfl
        rw [if_pos rfl]
        refine' q_bin ?_ (q_bin ?_ ?_ ?_ c3) (q_ite_f ?_ ?_) c4
        repeat' (first | (with_reducible exact c1) | (with_reducible exact c2) | k_upd)
      · have c1 : eqD (.int (d : Int)) (.int 3) = some false := eqD_f (by omega)
        have c3 : binI .add 2 (if false = true then 1 else 0) = some 2 := rfl
        have c4 : binI .add 2 0 = some ((2 : Nat) : Int) := rfl
        rw [if_neg h3]
        refine' q_bin ?_ (q_bin ?_ ?_ ?_ c3) (q_ite_f ?_ ?_) c4
        repeat' (first | (with_reducible exact c1) | (with_reducible exact c2) | k_upd)
  case hst =>
    exact hst _ fun x k g hc => ⟨[some (.h 0), some cV, some (.rl (iD gates)), some (.d (.int d)), none, some (.d x)], _, rfl, fun B' => by repeat' (first | (with_reducible exact hc _ _ _) | k_upd), rfl⟩
  repeat' (first | (with_reducible exact e1) | k_upd)
theorem itemsV_rng3 {m : Nat} (h : m ≤ 3) : ∃ xs : List PyData, itemsV (.rng 0 (m : Int)) = some xs ∧ xs.length = m := ⟨_, itemsV_rng (by omega), by simp⟩
theorem gate_c (w : WfC c) {gates : List Int} (hg : ∀ g ∈ gates, lit2 c.gs.length g) (h0 : 0 < gates.length) (hgl : gates.length < 1000) (hc : cells.length ≤ 63) {k : Nat} (hk : k < 8000) (hl : c.gs.length < 30000) (hkl : c.kn.length < 30000) :
    ∃ v c' k', k' ≤ k + 8 ∧ GOk 3 c v c' ∧ ∀ (w : World) (base : Heap) n r, CallOk (cx2 w base) (n + 6) 251 [.h 0, cV, .rl (iD gates)] (mkG (feO cells k) c r) (.d (.int v)) (mkG (feO cells k') c' r) := by
  obtain ⟨d, hd, e1⟩ := draw_c (cells := cells) (k := k) (m := 5) (by omega) hc (by omega)
  have lc : ∀ g, lit2 c.gs.length g → litC c g := fun g h => ⟨by have := h.1; omega, h.2⟩
  have lG : ∀ (L : List Int) (i : Nat) (h : i < L.length), L.length ≤ 3 → ∀ G : List O, idxG G (.int (i : Int)) (.d (.list (iD L))) = some (.int L[i]) := fun L i h h2 G => idx_nat L i h (by omega)
  by_cases hd2 : d < 2
  · obtain ⟨d2, hdd, e2⟩ := draw_c (cells := cells) (k := k + 1) (m := 2) (by omega) hc (by omega)
    obtain ⟨xs, hx1, hx2⟩ := itemsV_rng3 (m := 2 + d2) (by omega)
    obtain ⟨L, l1, l2, l3⟩ := gate_steps hg h0 hgl hc xs (k + 2) (by omega)
    have hs : szOk (iD L).length = true := szOk_lt (by simp [iD]; omega)
    have hlit : ∀ g ∈ L, litC c g := fun g h => lc g (l2 g h)
    have c2 : decide ((d : Int) < 2) = true := decide_eq_true (by omega)
    by_cases hd0 : d = 0
    · have ok := (allOf_ok w hlit (by omega)).g
      refine ⟨_, _, k + 2 + 2 * xs.length, by omega, ok.mono (by omega), fun w base n r => ?_⟩
      have c1 : eqD (.int (d : Int)) (.int 0) = some true := eqD_t (by omega)
      have e3 := all_of_c (w := w) (base := base) (n := n + 3) (f := feO cells (k + 2 + 2 * xs.length)) (r := r) (c := c) (lits := L) (.inl rfl) (by omega) (by omega) (by omega)
      refine q_call (Fs := [some (.h 0), some cV, some (.rl (iD gates)), none, none]) (fn251 w base) rfl rfl fun B => ?_
      apply Exists.intro
      refine' gate_pre (n := n + 3) (d := d) (k := k) (k1 := k + 2) (.inl ⟨hd2, d2, rfl, e2 w base (n + 4) c r⟩) (e1 w base (n + 4) c r) hx1 hs (fun stp hs => l3 stp c r fun x k g _ h => hs x k g h) (s_ret (s_if_t ?_ (s_ret (S_ret (q_ite_t ?_ ?_)))))
      repeat' (first | (with_reducible exact c2) | (with_reducible exact c1) | (with_reducible exact e3) | k_upd)
    · have ok := anyOf_ok w hlit (by omega)
      refine ⟨_, _, k + 2 + 2 * xs.length, by omega, ok.mono (by omega), fun w base n r => ?_⟩
      have c1 : eqD (.int (d : Int)) (.int 0) = some false := eqD_f (by omega)
      have e3 := any_of_c (w := w) (base := base) (n := n + 2) (f := feO cells (k + 2 + 2 * xs.length)) (r := r) (c := c) L (by omega) (by omega) (by omega)
      refine q_call (Fs := [some (.h 0), some cV, some (.rl (iD gates)), none, none]) (fn251 w base) rfl rfl fun B => ?_
      apply Exists.intro
      refine' gate_pre (n := n + 3) (d := d) (k := k) (k1 := k + 2) (.inl ⟨hd2, d2, rfl, e2 w base (n + 4) c r⟩) (e1 w base (n + 4) c r) hx1 hs (fun stp hs => l3 stp c r fun x k g _ h => hs x k g h) (s_ret (s_if_t ?_ (s_ret (S_ret (q_ite_f ?_ ?_)))))
      repeat' (first | (with_reducible exact c2) | (with_reducible exact c1) | (with_reducible exact e3) | k_upd)
  · have c2 : decide ((d : Int) < 2) = false := decide_eq_false (by omega)
    by_cases h3 : d = 3
    · obtain ⟨xs, hx1, hx2⟩ := itemsV_rng3 (m := 3) (by omega)
      obtain ⟨L, l1, l2, l3⟩ := gate_steps hg h0 hgl hc xs (k + 1) (by omega)
      have hs : szOk (iD L).length = true := szOk_lt (by simp [iD]; omega)
      have i0 := lG L 0 (by omega) (by omega)
      have i1 := lG L 1 (by omega) (by omega)
      have i2 := lG L 2 (by omega) (by omega)
      have ok := choose_ok w (lc _ (l2 L[0] (List.getElem_mem _))) (lc _ (l2 L[1] (List.getElem_mem _))) (lc _ (l2 L[2] (List.getElem_mem _)))
      refine ⟨_, _, k + 1 + 2 * xs.length, by omega, ok.mono (by omega), fun w base n r => ?_⟩
      have c1 : eqD (.int (d : Int)) (.int 2) = some false := eqD_f (by omega)
      have c3 : eqD (.int (d : Int)) (.int 3) = some true := eqD_t (by omega)
      have e3 := choose_c (w := w) (base := base) (n := n + 1) (f := feO cells (k + 1 + 2 * xs.length)) (r := r) (c := c) L[0] L[1] L[2] (by omega) (by omega)
      refine q_call (Fs := [some (.h 0), some cV, some (.rl (iD gates)), none, none]) (fn251 w base) rfl rfl fun B => ?_
      apply Exists.intro
      refine' gate_pre (n := n + 3) (d := d) (k := k) (k1 := k + 1) (m := 3) (.inr ⟨by omega, rfl, by rw [if_pos h3]⟩) (e1 w base (n + 4) c r) hx1 hs (fun stp hs => l3 stp c r fun x k g _ h => hs x k g h) (TSs_cons (s_if_f ?_ TSs_nil) (TSs_cons (s_if_f ?_ TSs_nil) (s_ret (S_ret (q_ite_t ?_ ?_)))))
      repeat' (first | (with_reducible exact c2) | (with_reducible exact c1) | (with_reducible exact c3) | exact i0 _ | exact i1 _ | exact i2 _ | (with_reducible exact e3) | k_upd)
    · obtain ⟨xs, hx1, hx2⟩ := itemsV_rng3 (m := 2) (by omega)
      obtain ⟨L, l1, l2, l3⟩ := gate_steps hg h0 hgl hc xs (k + 1) (by omega)
      have hs : szOk (iD L).length = true := szOk_lt (by simp [iD]; omega)
      have i0 := lG L 0 (by omega) (by omega)
      have i1 := lG L 1 (by omega) (by omega)
      by_cases h2 : d = 2
      · have ok := unlike_ok w (lc _ (l2 L[0] (List.getElem_mem _))) (lc _ (l2 L[1] (List.getElem_mem _)))
        refine ⟨_, _, k + 1 + 2 * xs.length, by omega, ok.mono (by omega), fun w base n r => ?_⟩
        have c1 : eqD (.int (d : Int)) (.int 2) = some true := eqD_t (by omega)
        have e3 := unlike_c (w := w) (base := base) (n := n) (f := feO cells (k + 1 + 2 * xs.length)) (r := r) (c := c) L[0] L[1] (by omega) (by omega)
        refine q_call (Fs := [some (.h 0), some cV, some (.rl (iD gates)), none, none]) (fn251 w base) rfl rfl fun B => ?_
        apply Exists.intro
        refine' gate_pre (n := n + 3) (d := d) (k := k) (k1 := k + 1) (m := 2) (.inr ⟨by omega, rfl, by rw [if_neg h3]⟩) (e1 w base (n + 4) c r) hx1 hs (fun stp hs => l3 stp c r fun x k g _ h => hs x k g h) (TSs_cons (s_if_f ?_ TSs_nil) (s_ret (s_if_t ?_ (s_ret (S_ret ?_)))))
        repeat' (first | (with_reducible exact c2) | (with_reducible exact c1) | exact i0 _ | exact i1 _ | (with_reducible exact e3) | k_upd)
      · have ok := impl_ok w (lc _ (l2 L[0] (List.getElem_mem _))) (lc _ (l2 L[1] (List.getElem_mem _)))
        refine ⟨_, _, k + 1 + 2 * xs.length, by omega, ok.mono (by omega), fun w base n r => ?_⟩
        have c1 : eqD (.int (d : Int)) (.int 2) = some false := eqD_f (by omega)
        have c3 : eqD (.int (d : Int)) (.int 3) = some false := eqD_f (by omega)
        have e3 := implies_c (w := w) (base := base) (n := n + 2) (f := feO cells (k + 1 + 2 * xs.length)) (r := r) (c := c) L[0] L[1] (by omega) (by omega)
        refine q_call (Fs := [some (.h 0), some cV, some (.rl (iD gates)), none, none]) (fn251 w base) rfl rfl fun B => ?_
        apply Exists.intro
        refine' gate_pre (n := n + 3) (d := d) (k := k) (k1 := k + 1) (m := 2) (.inr ⟨by omega, rfl, by rw [if_neg h3]⟩) (e1 w base (n + 4) c r) hx1 hs (fun stp hs => l3 stp c r fun x k g _ h => hs x k g h) (TSs_cons (s_if_f ?_ TSs_nil) (TSs_cons (s_if_f ?_ TSs_nil) (s_ret (S_ret (q_ite_f ?_ ?_)))))
        repeat' (first | (with_reducible exact c2) | (with_reducible exact c1) | (with_reducible exact c3) | exact i0 _ | exact i1 _ | (with_reducible exact e3) | k_upd)
end
section
open PySem PySem.W
noncomputable def nI (xs : List Nat) : List Int := xs.map fun n : Nat => (n : Int)
theorem mem_nI {xs : List Nat} {h : Nat} : (h : Int) ∈ nI xs ↔ h ∈ xs := by
  unfold nI
  rw [List.mem_map]
  constructor
  · rintro ⟨a, ha, e⟩
    have e : a = h := by omega
    exact e ▸ ha
  · intro h'; exact ⟨h, h', rfl⟩
theorem nI_app {a b : List Nat} : nI (a ++ b) = nI a ++ nI b := List.map_append ..
theorem iD_app {a b : List Int} : iD (a ++ b) = iD a ++ iD b := List.map_append ..
theorem nI_len {a : List Nat} : (nI a).length = a.length := List.length_map _
theorem iD_len {a : List Int} : (iD a).length = a.length := List.length_map _

/-! sorting -/
theorem insI_lt {x : Int} : ∀ {l : List Int}, l.Pairwise (· < ·) → x ∉ l → (insI x l).Pairwise (· < ·)
  | [], _, _ => by simp [insI]
  | y :: r, h, hx => by
    rw [List.pairwise_cons] at h
    unfold insI
    have hne : x ≠ y := fun e => hx (e ▸ .head _)
    split
    · rename_i hle
      rw [List.pairwise_cons]
      refine ⟨fun z hz => ?_, List.pairwise_cons.mpr h⟩
      rcases List.mem_cons.mp hz with rfl | hz
      · omega
      · have := h.1 z hz; omega
    · rename_i hle
      rw [List.pairwise_cons]
      refine ⟨fun z hz => ?_, insI_lt h.2 fun m => hx (.tail _ m)⟩
      rcases mem_insI.mp hz with rfl | hz
      · omega
      · exact h.1 z hz
theorem sortI_lt : ∀ {l : List Int}, l.Nodup → (sortI l).Pairwise (· < ·)
  | [], _ => .nil
  | x :: r, h => by
    rw [List.nodup_cons] at h
    unfold sortI
    exact insI_lt (sortI_lt h.2) fun m => h.1 (mem_sortI.mp m)
theorem eq_of_lt : ∀ {a b : List Int}, a.Pairwise (· < ·) → b.Pairwise (· < ·) → (∀ x, x ∈ a ↔ x ∈ b) → a = b
  | [], [], _, _, _ => rfl
  | [], y :: b, _, _, h => by have := (h y).mpr (.head _); cases this
  | x :: a, [], _, _, h => by have := (h x).mp (.head _); cases this
  | x :: a, y :: b, ha, hb, h => by
    rw [List.pairwise_cons] at ha hb
    have e : x = y := by
      rcases List.mem_cons.mp ((h x).mp (.head _)) with e | m
      · exact e
      · rcases List.mem_cons.mp ((h y).mpr (.head _)) with e | m'
        · exact e.symm
        · have := ha.1 y m'; have := hb.1 x m; omega
    subst e
    rw [eq_of_lt ha.2 hb.2 fun z => ?_]
    constructor
    · intro m
      rcases List.mem_cons.mp ((h z).mp (.tail _ m)) with rfl | q
      · have := ha.1 z m; omega
      · exact q
    · intro m
      rcases List.mem_cons.mp ((h z).mpr (.tail _ m)) with rfl | q
      · have := hb.1 z m; omega
      · exact q

open Classical in
/-- the gates under a gate, in order -/
noncomputable def undL (c : Ci) (g : Nat) : List Nat := (List.range (g + 1)).filter fun h => decide (Rch c g h)
theorem mem_undL {c : Ci} (w : WfC c) {g h : Nat} : h ∈ undL c g ↔ Rch c g h := by
  unfold undL
  rw [List.mem_filter, List.mem_range]
  simp only [decide_eq_true_eq]
  exact ⟨fun q => q.2, fun q => ⟨by have := q.le w; omega, q⟩⟩
theorem undL_lt (c : Ci) (g : Nat) : (nI (undL c g)).Pairwise (· < ·) := by
  unfold nI undL
  rw [List.pairwise_map]
  refine (List.Pairwise.filter _ List.pairwise_lt_range).imp ?_
  intro a b h; omega
theorem sort_undL {c : Ci} (w : WfC c) {g : Nat} {F : List Nat} (hn : F.Nodup) (hF : ∀ h, h ∈ F ↔ Rch c g h) : sortI (nI F) = nI (undL c g) := by
  have hn' : (nI F).Nodup := by
    unfold nI List.Nodup
    rw [List.pairwise_map]
    exact hn.imp fun {a b} h e => h (by omega)
  refine eq_of_lt (sortI_lt hn') (undL_lt c g) fun x => ?_
  rw [mem_sortI]
  constructor
  · intro h
    obtain ⟨a, ha, rfl⟩ := List.mem_map.mp h
    exact mem_nI.mpr ((mem_undL w).mpr ((hF a).mp ha))
  · intro h
    obtain ⟨a, ha, rfl⟩ := List.mem_map.mp h
    exact mem_nI.mpr ((hF a).mpr ((mem_undL w).mp ha))
theorem nodup_len : ∀ (n : Nat) {l : List Nat}, l.Nodup → (∀ x ∈ l, x < n) → l.length ≤ n
  | 0, [], _, _ => by simp
  | 0, x :: l, _, h => by have := h x (.head _); omega
  | n + 1, l, hn, h => by
    by_cases m : n ∈ l
    · have := nodup_len n (l := l.erase n) (hn.erase n) fun x hx => by
        have q := hn.mem_erase_iff.mp hx
        have := h x q.2
        have := q.1
        omega
      rw [List.length_erase_of_mem m] at this
      omega
    · have := nodup_len n hn fun x hx => by
        have := h x hx
        have : x ≠ n := fun e => m (e ▸ hx)
        omega
      omega
theorem kids_len {c : Ci} (w : WfC c) {g : Nat} : (kids c g).length ≤ 3 := by
  unfold kids
  split
  · rename_i x hx
    obtain ⟨k, ps⟩ := x
    rw [List.length_map]
    by_cases h2 : 2 ≤ g
    · rcases w.g g k ps h2 hx with ⟨_, rfl⟩ | ⟨_, _, q, _⟩
      · simp
      · exact q
    · have : g = 0 ∨ g = 1 := by omega
      rcases this with rfl | rfl
      · rw [w.z] at hx; cases hx; simp
      · rw [w.o] at hx; cases hx; simp
  · simp

theorem tn {cx : Cx} {n : Nat} {sc : Sc} {test : Expr} {body : List Stmt} {G : List O} {F F₁ : Fr'} {fr : List Nat → List Nat → Option V → Fr'} {q : List Nat → Prop} (h1 : TB cx n sc test F G true F G) (h2 : TSs cx n sc body F G .next F₁ G)
    (h : ∃ F' y', WhileR cx n sc test body F₁ G .next (fr F' [] y') G ∧ q F') : ∃ F' y', WhileR cx n sc test body F G .next (fr F' [] y') G ∧ q F' := by
  obtain ⟨F', y', e, q⟩ := h
  exact ⟨F', y', .turn h1 h2 e, q⟩
/-- the loop of a walk under a gate -/
theorem dfs_loop {cx : Cx} {n : Nat} {sc : Sc} {test : Expr} {body : List Stmt} {c : Ci} (w : WfC c) {g : Nat} (hg : g < c.gs.length) {G : List O} {fr : List Nat → List Nat → Option V → Fr'}
    (h0 : ∀ F y, TB cx n sc test (fr F [] y) G false (fr F [] y) G)
    (h1 : ∀ F S h y, h < c.gs.length → F.length ≤ g + 1 → S.length ≤ 3 * (g + 1) + 1 → TB cx n sc test (fr F (S ++ [h]) y) G true (fr F (S ++ [h]) y) G ∧ ∃ y', TSs cx n sc body (fr F (S ++ [h]) y) G .next (fr (if h ∈ F then F else F ++ [h]) (if h ∈ F then S else S ++ kids c h) y') G) :
    ∀ (N : Nat) (F S : List Nat) (y : Option V), F.Nodup → (∀ h ∈ F, Rch c g h) → (∀ h ∈ S, Rch c g h) → (g ∈ F ∨ g ∈ S) → (∀ h ∈ F, ∀ p ∈ kids c h, p ∈ F ∨ p ∈ S) → S.length + 3 * (g + 1 - F.length) < N → S.length + 3 * (g + 1 - F.length) ≤ 3 * (g + 1) + 1 →
      ∃ F' y', WhileR cx n sc test body (fr F S y) G .next (fr F' [] y') G ∧ F'.Nodup ∧ ∀ h, h ∈ F' ↔ Rch c g h
  | 0, F, S, y, _, _, _, _, _, h, _ => by omega
  | N + 1, F, S, y, hn, hF, hS, hgm, hc, hm, hm2 => by
    have hFl : F.length ≤ g + 1 := nodup_len (g + 1) hn fun x hx => by have := (hF x hx).le w; omega
    rcases List.eq_nil_or_concat S with rfl | ⟨S0, t, rfl⟩
    · refine ⟨F, y, .done (h0 F y), hn, fun h => ⟨hF h, fun q => ?_⟩⟩
      · have gF : g ∈ F := hgm.resolve_right (by simp)
        clear hF hS hgm hm hm2 h0 h1 hg hFl
        induction q with
        | refl => exact gF
        | step hp _ ih => exact ih ((hc _ gF _ hp).resolve_right (by simp))
    · simp only [List.concat_eq_append, List.length_append, List.length_cons, List.length_nil] at *
      have ht : Rch c g t := hS t (by simp)
      have htl := ht.le w
      obtain ⟨e1, y', e2⟩ := h1 F S0 t y (by omega) hFl (by omega)
      by_cases hm1 : t ∈ F
      · simp only [hm1, if_true] at e2
        refine tn e1 e2 (dfs_loop w hg h0 h1 N F S0 y' hn hF (fun h q => hS h (List.mem_append_left _ q)) ?_ ?_ (by omega) (by omega))
        · rcases hgm with q | q
          · exact .inl q
          · rcases List.mem_append.mp q with q | q
            · exact .inr q
            · have : g = t := by simpa using q
              exact .inl (this ▸ hm1)
        · intro h q p hp
          rcases hc h q p hp with q | q
          · exact .inl q
          · rcases List.mem_append.mp q with q | q
            · exact .inr q
            · have : p = t := by simpa using q
              exact .inl (this ▸ hm1)
      · simp only [hm1, if_false] at e2
        have hn' : (F ++ [t]).Nodup := by
          rw [List.nodup_append]
          refine ⟨hn, by simp, fun a ha b hb e => ?_⟩
          have : b = t := by simpa using hb
          exact hm1 (this ▸ e ▸ ha)
        have hF' : ∀ h ∈ F ++ [t], Rch c g h := fun h q => by
          rcases List.mem_append.mp q with q | q
          · exact hF h q
          · have : h = t := by simpa using q
            exact this ▸ ht
        have hl' : (F ++ [t]).length ≤ g + 1 := nodup_len (g + 1) hn' fun x hx => by have := (hF' x hx).le w; omega
        have hk := kids_len w (g := t)
        simp only [List.length_append, List.length_cons, List.length_nil] at hl'
        refine tn e1 e2 (dfs_loop w hg h0 h1 N (F ++ [t]) (S0 ++ kids c t) y' hn' hF' ?_ ?_ ?_ ?_ ?_)
        · intro h q
          rcases List.mem_append.mp q with q | q
          · exact hS h (List.mem_append_left _ q)
          · exact ht.trans (.step q (.refl _))
        · rcases hgm with q | q
          · exact .inl (List.mem_append_left _ q)
          · rcases List.mem_append.mp q with q | q
            · exact .inr (List.mem_append_left _ q)
            · exact .inl (List.mem_append_right _ q)
        · intro h q p hp
          rcases List.mem_append.mp q with q | q
          · rcases hc h q p hp with q | q
            · exact .inl (List.mem_append_left _ q)
            · rcases List.mem_append.mp q with q | q
              · exact .inr (List.mem_append_left _ q)
              · exact .inl (List.mem_append_right _ q)
          · have : h = t := by simpa using q
            subst this
            exact .inr (List.mem_append_right _ hp)
        · simp only [List.length_append, List.length_cons, List.length_nil]; omega
        · simp only [List.length_append, List.length_cons, List.length_nil]; omega
end
section
open PySem PySem.W
theorem depthAll_iD : ∀ xs : List Int, PyData.depthAll (iD xs) ≤ 1
  | [] => by simp [iD, PyData.depthAll]
  | x :: r => by
    have := depthAll_iD r
    simp only [iD, List.map_cons, PyData.depthAll, PyData.depth] at *
    omega
theorem canLay_iD : ∀ xs : List Int, PyData.canLayAll0 (iD xs) = true
  | [] => rfl
  | x :: r => by
    have := canLay_iD r
    simp only [iD, List.map_cons, PyData.canLayAll0, PyData.canLay0, Bool.true_and] at *
    exact this
theorem okD_list (xs : List Int) : okD (.list (iD xs)) = true := by
  have h1 := depthAll_iD xs
  have h2 := canLay_iD xs
  have h3 : PyData.depth (.list (iD xs)) ≤ 64 := by simp only [PyData.depth]; omega
  have h4 : PyData.canLay0 (.list (iD xs)) = true := by simp only [PyData.canLay0]; exact h2
  unfold okD SeqAt.shaped
  rw [h4, decide_eq_true h3]; rfl
theorem any_iD (xs : List Int) (x : Int) : (iD xs).any (fun y => PyData.eqv y (.int x)) = decide (x ∈ xs) := by
  rw [Bool.eq_iff_iff, List.any_eq_true, decide_eq_true_eq]
  constructor
  · rintro ⟨y, hy, e⟩
    obtain ⟨a, ha, rfl⟩ := List.mem_map.mp hy
    rw [eqv_int, decide_eq_true_eq] at e
    exact e ▸ ha
  · intro h
    exact ⟨.int x, List.mem_map_of_mem h, by rw [eqv_int]; simp⟩
theorem eqv_nil (xs : List Int) : PyData.eqv (.list (iD xs)) (.list []) = xs.isEmpty := by
  cases xs <;> simp [iD, PyData.eqv, PyData.eqvAll]
theorem wf_kind {c : Ci} (w : WfC c) {g : Nat} (h : g < c.gs.length) : ∃ k ps, c.gs[g]? = some (k, ps) ∧ (k = ("and" : Str) ∨ ((k = ("input" : Str) ∨ k = ("true" : Str) ∨ k = ("" : Str)) ∧ ps = [])) := by
  have hg : c.gs[g]? = some (c.gs[g].1, c.gs[g].2) := List.getElem?_eq_getElem h
  by_cases h2 : 2 ≤ g
  · rcases w.g g _ _ h2 hg with ⟨e1, e2⟩ | ⟨e1, _⟩
    · exact ⟨_, _, hg, .inr ⟨.inl e1, e2⟩⟩
    · exact ⟨_, _, hg, .inl e1⟩
  · have : g = 0 ∨ g = 1 := by omega
    rcases this with rfl | rfl
    · exact ⟨_, _, w.z, .inr ⟨.inr (.inr rfl), rfl⟩⟩
    · exact ⟨_, _, w.o, .inr ⟨.inr (.inl rfl), rfl⟩⟩
theorem eq_and : eqD (.str ("and" : Str)) (.str ("and" : Str)) = some true := by decide +kernel
theorem eq_ia : eqD (.str ("input" : Str)) (.str ("and" : Str)) = some false := by decide +kernel
theorem eq_ta : eqD (.str ("true" : Str)) (.str ("and" : Str)) = some false := by decide +kernel
theorem eq_ea : eqD (.str ("" : Str)) (.str ("and" : Str)) = some false := by decide +kernel
theorem eq_ai : eqD (.str ("and" : Str)) (.str ("input" : Str)) = some false := by decide +kernel
theorem eq_ii : eqD (.str ("input" : Str)) (.str ("input" : Str)) = some true := by decide +kernel
theorem eq_ti : eqD (.str ("true" : Str)) (.str ("input" : Str)) = some false := by decide +kernel
theorem eq_ei : eqD (.str ("" : Str)) (.str ("input" : Str)) = some false := by decide +kernel

variable {w : World} {base : Heap} {n : Nat} {c : Ci} {r : List O} {G : List O} {f : O}
noncomputable abbrev tV (inp : List PyData) : V := .ctr 1 2 3 inp 4 5 6
noncomputable def whTest : Stmt → Expr
  | .While t _ _ _ => t
  | _ => .Name "" default
noncomputable def whBody : Stmt → List Stmt
  | .While _ b _ _ => b
  | _ => []
noncomputable def wt40 : Expr := whTest (bd40.getD 1 (.Pass default))
noncomputable def wb40 : List Stmt := whBody (bd40.getD 1 (.Pass default))
theorem absmap (ps : List Int) : ps.map (fun p => PyData.int ((p.natAbs : Nat) : Int)) = iD (nI (ps.map Int.natAbs)) := by simp [iD, nI]
theorem below_test {B : Heap} {X Y y : Option V} {S : List Nat} {z : Bool} (hS : S.length < 90000) (hz : decide (0 < S.length) = z) :
    TB (cx2 w base) (n + 1) (scOf fd40 ls40 B) wt40 [some (tV inp), X, Y, some (.ol (iD (nI S))), y] G z [some (tV inp), X, Y, some (.ol (iD (nI S))), y] G := by
  have e1 : lenG G (.ol (iD (nI S))) = some S.length := by
    show (if szOk (iD (nI S)).length then some (iD (nI S)).length else none) = _
    rw [iD_len, nI_len, szOk_lt (by omega)]; rfl
  have e2 : decide ((0 : Int) < (S.length : Int)) = z := by rw [← hz, decide_eq_decide]; omega
  refine' B_cmp (q_gt ?_ ?_ e2 ?_) ?_
  repeat' (first | (with_reducible exact e1) | k_upd)
theorem below_step (wc : WfC c) (hl : c.gs.length < 30000) {g : Nat} (hg : g < c.gs.length) {inp : List PyData} {X : Option V} {B : Heap} (F S : List Nat) (h : Nat) (y : Option V) (hh : h < c.gs.length) (hF : F.length ≤ g + 1) (hS : S.length ≤ 3 * (g + 1) + 1) :
    ∃ y', TSs (cx2 w base) (n + 1) (scOf fd40 ls40 B) wb40 [some (tV inp), X, some (.od (tk (nI F))), some (.ol (iD (nI (S ++ [h])))), y] (mkG f c r) .next
      [some (tV inp), X, some (.od (tk (nI (if h ∈ F then F else F ++ [h])))), some (.ol (iD (nI (if h ∈ F then S else S ++ kids c h)))), y'] (mkG f c r) := by
  refine ⟨some (.d (.int h)), ?_⟩
  have e1 : szOk (iD (nI (S ++ [h]))).length = true := szOk_lt (by rw [iD_len, nI_len]; simp; omega)
  have e2 : (iD (nI (S ++ [h]))).getLast? = some (.int h) := by rw [nI_app, iD_app]; simp [nI, iD]
  have e3 : (iD (nI (S ++ [h]))).dropLast = iD (nI S) := by rw [nI_app, iD_app]; simp [nI, iD]
  by_cases hm : h ∈ F
  · have e7 : inG (mkG f c r) (.int (h : Int)) (.od (tk (nI F))) = some (!false) := congrArg some (dget_tk.trans (decide_eq_true (mem_nI.mpr hm)))
    rw [if_pos hm, if_pos hm]
    refine' TSs_cons (F₁ := [some (tV inp), X, some (.od (tk (nI F))), some (.ol (iD (nI S))), some (.d (.int h))]) (s_pop ?_ ?_ ?_ ?_ e2 e1 e3 ?_ ?_) (TSs_cons (s_if_f ?_ TSs_nil) TSs_nil)
    repeat' (first | (with_reducible exact e7) | k_upd)
  · have e7 : (h : Int) ∉ nI F := fun q => hm (mem_nI.mp q)
    have e7' : inG (mkG f c r) (.int (h : Int)) (.od (tk (nI F))) = some (!true) := congrArg some (dget_tk.trans (decide_eq_false e7))
    have e8 : addN (nI F) (h : Int) = nI (F ++ [h]) := by unfold addN; rw [if_neg e7, nI_app]; rfl
    have e8' : dput (tk (nI F)) (h : Int) (.bool true) = tk (nI (F ++ [h])) := by rw [dput_tk, e8]
    have e9 : szOk (tk (nI F)).length = true := szOk_lt (by rw [tk_length, nI_len]; omega)
    obtain ⟨k, ps, hk, hc⟩ := wf_kind wc hh
    have k1 := kind_c (w := w) (base := base) (n := n) (f := f) (r := r) (g := (h : Int)) (show c.gs[(h : Int).natAbs]? = _ from hk) (by omega)
    have k2 := parts_c (w := w) (base := base) (n := n) (f := f) (r := r) (g := (h : Int)) (show c.gs[(h : Int).natAbs]? = _ from hk) (by omega)
    have k3 := kids_of hk
    rw [if_neg hm, if_neg hm]
    have end_ : eqD (.str k) (.str ("and" : Str)) = some false → kids c h = [] → TSs (cx2 w base) (n + 1) (scOf fd40 ls40 B) wb40 [some (tV inp), X, some (.od (tk (nI F))), some (.ol (iD (nI (S ++ [h])))), y] (mkG f c r) .next
      [some (tV inp), X, some (.od (tk (nI (F ++ [h])))), some (.ol (iD (nI (S ++ kids c h)))), some (.d (.int h))] (mkG f c r) := fun ea k4 => by
      rw [k4, List.append_nil]
      refine' TSs_cons (F₁ := [some (tV inp), X, some (.od (tk (nI F))), some (.ol (iD (nI S))), some (.d (.int h))]) (s_pop ?_ ?_ ?_ ?_ e2 e1 e3 ?_ ?_) (TSs_cons (s_if_t ?_ (TSs_cons (F₁ := [some (tV inp), X, some (.od (tk (nI (F ++ [h])))), some (.ol (iD (nI S))), some (.d (.int h))]) (s_setV ?_ ?_ ?_ ?_ ?_ ?_ e9 e8' ?_) (TSs_cons (s_if_f ?_ TSs_nil) TSs_nil))) TSs_nil)
      repeat' (first | (with_reducible exact e7') | (with_reducible exact k1) | (with_reducible exact ea) | k_upd)
    rcases hc with rfl | ⟨hc, rfl⟩
    · have hps : ps.length ≤ 3 := by have := kids_len wc (g := h); rw [k3, List.length_map] at this; exact this
      have es : szOk (iD (nI (ps.map Int.natAbs))).length = true := szOk_lt (by rw [iD_len, nI_len]; simp; omega)
      have es2 : szOk ((iD (nI S)).length + (iD (nI (ps.map Int.natAbs))).length) = true := szOk_lt (by rw [iD_len, nI_len, iD_len, nI_len]; simp; omega)
      have e10 : some (V.ol (iD (nI S) ++ iD (nI (ps.map Int.natAbs)))) = some (.ol (iD (nI (S ++ kids c h)))) := by rw [k3, nI_app, iD_app]
      have hv : itemsV (.d (.tuple (iD ps))) = some (iD ps) := rfl
      rw [← e10]
      refine' TSs_cons (F₁ := [some (tV inp), X, some (.od (tk (nI F))), some (.ol (iD (nI S))), some (.d (.int h))]) (s_pop ?_ ?_ ?_ ?_ e2 e1 e3 ?_ ?_) (TSs_cons (s_if_t ?_ (TSs_cons (F₁ := [some (tV inp), X, some (.od (tk (nI (F ++ [h])))), some (.ol (iD (nI S))), some (.d (.int h))]) (s_setV ?_ ?_ ?_ ?_ ?_ ?_ e9 e8' ?_) (TSs_cons (s_if_t ?_ (TSs_cons (s_extV ?_ (q_comp (core1 (own := 1) ?_ ?_ hv ?_ (fun B => rfl) (fun B => .inl rfl) ?_ ?_ es) ?_ ?_) ?_ ?_ es2 ?_ ?_ ?_) TSs_nil)) TSs_nil))) TSs_nil)
      repeat' (first | (with_reducible exact e7') | (with_reducible exact k1) | (with_reducible exact eq_and) | (with_reducible exact k2) | k_upd)
      refine absmap ps ▸ steps_pure (g := PyData.int) (h := fun p => PyData.int ((p.natAbs : Nat) : Int)) ps fun p _ => ⟨[some (tV inp), X.map ro, some (.rd (tk (nI (F ++ [h])))), some (.rl (iD (nI S))), some (.d (.int h)), some (.d (.int p))], _, rfl, fun B' => ?_, rfl⟩
      repeat' (first  | k_upd)
    · have k4 : kids c h = [] := by rw [k3]; rfl
      rcases hc with rfl | rfl | rfl
      · exact end_ eq_ia k4
      · exact end_ eq_ta k4
      · exact end_ eq_ea k4
theorem below_c (wc : WfC c) (hl : c.gs.length < 30000) {g : Int} (hg : g.natAbs < c.gs.length) (h64 : (undL c g.natAbs).length < 64) {inp : List PyData} :
    CallOk (cx2 w base) (n + 2) 40 [tV inp, .d (.int g)] (mkG f c r) (.d (.list (iD (nI (undL c g.natAbs))))) (mkG f c r) := by
  refine q_call (Fs := [some (tV inp), some (.d (.int g)), none, none, none]) (fn40 w base) rfl rfl fun B => ?_
  obtain ⟨F', y', h1, h2, h3⟩ := dfs_loop (cx := cx2 w base) (n := n + 1) (sc := scOf fd40 ls40 B) (test := wt40) (body := wb40) (G := mkG f c r) (fr := fun F S y => [some (tV inp), some (.d (.int g)), some (.od (tk (nI F))), some (.ol (iD (nI S))), y]) wc hg
    (fun F y => below_test (by decide) rfl)
    (fun F S h y hh hF hS => ⟨below_test (by simp; omega) (by simp), below_step wc hl hg F S h y hh hF hS⟩) 100000 [] [g.natAbs] none (by simp) (by simp) (fun h q => by rw [show h = g.natAbs by simpa using q]; exact .refl _) (.inr (by simp)) (by simp) (by simp; omega) (by simp; omega)
  have hs := sort_undL wc h2 h3
  have hlen : F'.length < 64 := by
    have := congrArg List.length hs
    rw [sortI_length, nI_len, nI_len] at this
    omega
  have e3 : (sortI ((tk (nI F')).map (·.1))).map PyData.int = iD (nI (undL c g.natAbs)) := by rw [tk_fst, hs]; rfl
  have e4 : (tk (nI F')).length < 64 := by rw [tk_length, nI_len]; exact hlen
  apply Exists.intro
  refine' TSs_cons (F₁ := [some (tV inp), some (.d (.int g)), some (.od []), some (.ol [.int (g.natAbs : Int)]), none]) (s_asg2 ?_ ?_ ?_ ?_ TO_dict0.tw (TO_lst (TL_cons ?_ ?_ TL_nil) ?_).tw ?_ ?_ ?_ ?_ ?_) (TSs_cons (S_while h1) (s_ret (S_ret (q_sortedv (bq ?_ ?_) ?_ ?_ (.inr ⟨_, .inl rfl, e4, rfl⟩) e3))))
  repeat' (first  | k_upd)
end
section
open PySem PySem.W
variable {w : World} {base : Heap} {n : Nat} {c : Ci} {r : List O} {G : List O} {f : O}
theorem eqD_nil (S : List Int) : eqD (.list (iD S)) (.list []) = some S.isEmpty := by
  unfold eqD
  rw [okD_list, show okD (.list []) = true from okD_list [], eqv_nil]; rfl
noncomputable def wt256 : Expr := whTest (bd256.getD 1 (.Pass default))
noncomputable def wb256 : List Stmt := whBody (bd256.getD 1 (.Pass default))
theorem under_test {B : Heap} {X Y y : Option V} {S : List Nat} {z : Bool} (hz : S.isEmpty = !z) :
    TB (cx2 w base) (n + 1) (scOf fd256 ls256 B) wt256 [some cV, X, Y, some (.ol (iD (nI S))), y] G z [some cV, X, Y, some (.ol (iD (nI S))), y] G := by
  have e1 : eqD (.list (iD (nI S))) (.list []) = some (!z) := by rw [eqD_nil, ← hz]; cases S <;> rfl
  have e0 : (moved (V.ol (iD (nI S)))).bind asD = some (.list (iD (nI S))) := rfl
  refine' B_cmp (q_nev ?_ (q_lst TL_nil ?_) ?_ ?_ e0 e1 ?_) ?_
  repeat' (first  | k_upd)
theorem under_step (wc : WfC c) (hl : c.gs.length < 30000) {g : Nat} (hg : g < c.gs.length) {X : Option V} {B : Heap} (F S : List Nat) (h : Nat) (y : Option V) (hh : h < c.gs.length) (hF : F.length ≤ g + 1) (hS : S.length ≤ 3 * (g + 1) + 1) :
    ∃ y', TSs (cx2 w base) (n + 1) (scOf fd256 ls256 B) wb256 [some cV, X, some (.ol (iD (nI F))), some (.ol (iD (nI (S ++ [h])))), y] (mkG f c r) .next
      [some cV, X, some (.ol (iD (nI (if h ∈ F then F else F ++ [h])))), some (.ol (iD (nI (if h ∈ F then S else S ++ kids c h)))), y'] (mkG f c r) := by
  refine ⟨some (.d (.int h)), ?_⟩
  have e1 : szOk (iD (nI (S ++ [h]))).length = true := szOk_lt (by rw [iD_len, nI_len]; simp; omega)
  have e2 : (iD (nI (S ++ [h]))).getLast? = some (.int h) := by rw [nI_app, iD_app]; simp [nI, iD]
  have e3 : (iD (nI (S ++ [h]))).dropLast = iD (nI S) := by rw [nI_app, iD_app]; simp [nI, iD]
  have hin : inG (mkG f c r) (.int (h : Int)) (.ol (iD (nI F))) = some (decide ((h : Int) ∈ nI F)) := by
    show (if okD (.int (h : Int)) && PyData.canLayAll0 (iD (nI F)) then some ((iD (nI F)).any fun y => PyData.eqv y (.int (h : Int))) else none) = _
    rw [okD_int, canLay_iD, any_iD]; rfl
  by_cases hm : h ∈ F
  · have e7 : inG (mkG f c r) (.int (h : Int)) (.ol (iD (nI F))) = some (!false) := hin.trans (congrArg some (decide_eq_true (mem_nI.mpr hm)))
    rw [if_pos hm, if_pos hm]
    refine' TSs_cons (F₁ := [some cV, X, some (.ol (iD (nI F))), some (.ol (iD (nI S))), some (.d (.int h))]) (s_pop ?_ ?_ ?_ ?_ e2 e1 e3 ?_ ?_) (TSs_cons (s_if_f ?_ TSs_nil) TSs_nil)
    repeat' (first | (with_reducible exact e7) | k_upd)
  · have e7 : (h : Int) ∉ nI F := fun q => hm (mem_nI.mp q)
    have e7' : inG (mkG f c r) (.int (h : Int)) (.ol (iD (nI F))) = some (!true) := hin.trans (congrArg some (decide_eq_false e7))
    have e8 : some (V.ol (iD (nI F) ++ [.int (h : Int)])) = some (.ol (iD (nI (F ++ [h])))) := by rw [nI_app, iD_app]; rfl
    have e9 : szOk (iD (nI F)).length = true := szOk_lt (by rw [iD_len, nI_len]; omega)
    obtain ⟨k, ps, hk, hc⟩ := wf_kind wc hh
    have k2 := parts_c (w := w) (base := base) (n := n) (f := f) (r := r) (g := (h : Int)) (show c.gs[(h : Int).natAbs]? = _ from hk) (by omega)
    have k3 := kids_of hk
    rw [if_neg hm, if_neg hm]
    have hps := kids_len wc (g := h)
    rw [k3, List.length_map] at hps
    have es : szOk (iD (nI (ps.map Int.natAbs))).length = true := szOk_lt (by rw [iD_len, nI_len]; simp; omega)
    have es2 : szOk ((iD (nI S)).length + (iD (nI (ps.map Int.natAbs))).length) = true := szOk_lt (by rw [iD_len, nI_len, iD_len, nI_len]; simp; omega)
    have e10 : some (V.ol (iD (nI S) ++ iD (nI (ps.map Int.natAbs)))) = some (.ol (iD (nI (S ++ kids c h)))) := by rw [k3, nI_app, iD_app]
    have hv : itemsV (.d (.tuple (iD ps))) = some (iD ps) := rfl
    have hmv : mvF [some cV, X, some (.ol (iD (nI F) ++ [.int (h : Int)])), some (.ol (iD (nI S))), some (.d (.int h))] 3 (.ol (iD (nI S))) = some (.d (.list (iD (nI S))), [some cV, X, some (.ol (iD (nI F) ++ [.int (h : Int)])), none, some (.d (.int h))]) := rfl
    rw [← e10, ← e8]
    refine' TSs_cons (F₁ := [some cV, X, some (.ol (iD (nI F))), some (.ol (iD (nI S))), some (.d (.int h))]) (s_pop ?_ ?_ ?_ ?_ e2 e1 e3 ?_ ?_) (TSs_cons (s_if_t ?_ (TSs_cons (F₁ := [some cV, X, some (.ol (iD (nI F) ++ [.int (h : Int)])), some (.ol (iD (nI S))), some (.d (.int h))]) (s_appV ?_ ?_ ?_ ?_ e9 ?_ ?_ ?_) (TSs_cons (s_asgO ?_ ?_ ?_ (TO_addL (q_name ?_ ?_ hmv) (q_comp (core1 (own := 1) ?_ ?_ hv ?_ (fun B => rfl) (fun B => .inl rfl) ?_ ?_ es) ?_ ?_) es2) ?_) TSs_nil))) TSs_nil)
    repeat' (first | (with_reducible exact e7') | (with_reducible exact k2) | k_upd)
    refine absmap ps ▸ steps_pure (g := PyData.int) (h := fun p => PyData.int ((p.natAbs : Nat) : Int)) ps fun p _ => ⟨[some cV, X.map ro, some (.rl (iD (nI F) ++ [.int (h : Int)])), none, some (.d (.int h)), some (.d (.int p))], _, rfl, fun B' => ?_, rfl⟩
    repeat' (first  | k_upd)
theorem under_c (wc : WfC c) (hl : c.gs.length < 30000) {g : Int} (hg : g.natAbs < c.gs.length) (h64 : (undL c g.natAbs).length < 64) :
    CallOk (cx2 w base) (n + 2) 256 [cV, .d (.int g)] (mkG f c r) (.d (.list (iD (nI (undL c g.natAbs))))) (mkG f c r) := by
  refine q_call (Fs := [some cV, some (.d (.int g)), none, none, none]) (fn256 w base) rfl rfl fun B => ?_
  obtain ⟨F', y', h1, h2, h3⟩ := dfs_loop (cx := cx2 w base) (n := n + 1) (sc := scOf fd256 ls256 B) (test := wt256) (body := wb256) (G := mkG f c r) (fr := fun F S y => [some cV, some (.d (.int g)), some (.ol (iD (nI F))), some (.ol (iD (nI S))), y]) wc hg
    (fun F y => under_test rfl)
    (fun F S h y hh hF hS => ⟨under_test (by simp), under_step wc hl hg F S h y hh hF hS⟩) 100000 [] [g.natAbs] none (by simp) (by simp) (fun h q => by rw [show h = g.natAbs by simpa using q]; exact .refl _) (.inr (by simp)) (by simp) (by simp; omega) (by simp; omega)
  have hs := sort_undL wc h2 h3
  have hlen : F'.length < 64 := by
    have := congrArg List.length hs
    rw [sortI_length, nI_len, nI_len] at this
    omega
  have e3 : (sortI (nI F')).map PyData.int = iD (nI (undL c g.natAbs)) := by rw [hs]; rfl
  have e4 : (iD (nI F')).length < 64 := by rw [iD_len, nI_len]; exact hlen
  apply Exists.intro
  refine' TSs_cons (F₁ := [some cV, some (.d (.int g)), some (.ol []), some (.ol [.int (g.natAbs : Int)]), none]) (s_asg2 ?_ ?_ ?_ ?_ (TO_lst TL_nil ?_).tw (TO_lst (TL_cons ?_ ?_ TL_nil) ?_).tw ?_ ?_ ?_ ?_ ?_) (TSs_cons (S_while h1) (s_ret (S_ret (q_sortedv (bq ?_ ?_) ?_ ?_ (.inl ⟨_, .inr (.inl rfl), e4, asInts_iD _⟩) e3))))
  repeat' (first  | k_upd)
end
section
open PySem PySem.W
variable {w : World} {base : Heap} {n : Nat} {c : Ci} {r : List O} {G : List O} {f : O}
theorem asKvs_pack : ∀ q : List (Int × PyData), asKvs (q.map fun p => (.int p.1, p.2)) = some q
  | [] => rfl
  | (i, x) :: r => by simp [asKvs, asKvs_pack r]
noncomputable def rS (sup : List (Int × PyData)) : List O := [.di [], .di [], .di sup]
/-- the inputs under a gate -/
noncomputable def inS (c : Ci) (g : Nat) (x : Int) : Prop := ∃ h : Nat, x = h ∧ isIn c h ∧ Rch c g h
structure KOk (c : Ci) (g : Nat) (K : List Int) : Prop where
  nd : K.Nodup
  mem : ∀ x, x ∈ K ↔ inS c g x
noncomputable def natK (n : Nat) (K : List Int) : Prop := ∀ x ∈ K, ∃ h : Nat, x = h ∧ h < n
theorem natK_len {n : Nat} {K : List Int} (hn : K.Nodup) (h : natK n K) : K.length ≤ n := by
  have e : K = nI (K.map Int.natAbs) := by
    unfold nI
    rw [List.map_map]
    conv => lhs; rw [← List.map_id K]
    refine List.map_congr_left fun x hx => ?_
    obtain ⟨a, rfl, _⟩ := h x hx
    simp
  have h1 : (K.map Int.natAbs).Nodup := by
    rw [e] at hn
    unfold nI List.Nodup at hn
    rw [List.pairwise_map] at hn
    exact hn.imp fun {a b} q e => q (by rw [e])
  have := nodup_len n h1 fun x hx => by
    obtain ⟨y, hy, rfl⟩ := List.mem_map.mp hx
    obtain ⟨a, rfl, q⟩ := h y hy
    exact q
  simpa using this
theorem natK_of {g : Nat} {K : List Int} (wc : WfC c) (hg : g < c.gs.length) (h : ∀ x ∈ K, inS c g x) : natK c.gs.length K := fun x hx => by
  obtain ⟨a, rfl, q, _⟩ := h x hx
  exact ⟨a, rfl, (List.getElem?_eq_some_iff.mp q).1⟩
noncomputable def addAll (a b : List Int) : List Int := b.foldl addN a
theorem dmerge_tk : ∀ (b a : List Int), dmerge (tk a) (tk b) = tk (addAll a b)
  | [], _ => rfl
  | g :: b, a => by
    show dmerge (dput (tk a) g (.bool true)) (tk b) = _
    rw [dput_tk, dmerge_tk b]; rfl
theorem mem_addAll {x : Int} : ∀ {b a : List Int}, x ∈ addAll a b ↔ x ∈ a ∨ x ∈ b
  | [], a => by simp [addAll]
  | g :: b, a => by
    show x ∈ addAll (addN a g) b ↔ _
    rw [mem_addAll (b := b), mem_addN, List.mem_cons]
    constructor
    · rintro ((h | h) | h)
      · exact .inl h
      · exact .inr (.inl h)
      · exact .inr (.inr h)
    · rintro (h | h | h)
      · exact .inl (.inl h)
      · exact .inl (.inr h)
      · exact .inr h
theorem nodup_addAll : ∀ {b a : List Int}, a.Nodup → (addAll a b).Nodup
  | [], _, h => h
  | g :: b, a, h => by
    show (addAll (addN a g) b).Nodup
    exact nodup_addAll (nodup_addN h)
structure SupOk (c : Ci) (sup : List (Int × PyData)) : Prop where
  nd : (sup.map (·.1)).Nodup
  ky : natK c.gs.length (sup.map (·.1))
  ok : ∀ (g : Nat) (d : PyData), dget sup g = some d → ∃ K, d = dpack (tk K) ∧ KOk c g K
theorem SupOk.len {sup : List (Int × PyData)} (s : SupOk c sup) : sup.length ≤ c.gs.length := by
  have := natK_len s.nd s.ky; simpa using this
theorem SupOk.nil : SupOk c [] := ⟨by simp, fun x hx => (by cases hx), fun g d h => (by cases h)⟩
theorem dget_some {kvs : List (Int × PyData)} {k : Int} : (dget kvs k).isSome ↔ k ∈ kvs.map (·.1) := by
  unfold dget
  rw [Option.isSome_map, List.find?_isSome]
  simp
theorem dput_new {kvs : List (Int × PyData)} {k : Int} {x : PyData} (h : k ∉ kvs.map (·.1)) : dput kvs k x = kvs ++ [(k, x)] := by
  unfold dput
  rw [if_neg]
  intro e
  rw [List.any_eq_true] at e
  obtain ⟨p, hp, e⟩ := e
  exact h (List.mem_map.mpr ⟨p, hp, by simpa using e⟩)
theorem dget_dput {kvs : List (Int × PyData)} {k j : Int} {x : PyData} : dget (dput kvs k x) j = if j = k then some x else dget kvs j := by
  unfold dput dget
  by_cases h : kvs.any (fun p => p.1 = k) = true
  · rw [if_pos h]
    rw [List.any_eq_true] at h
    induction kvs with
    | nil => obtain ⟨_, h, _⟩ := h; cases h
    | cons p r ih =>
      obtain ⟨a, y⟩ := p
      by_cases ha : a = k
      · subst ha
        by_cases hj : j = a
        · subst hj; simp
        · simp [Ne.symm hj, hj]
          clear ih h
          induction r with
          | nil => simp
          | cons p r ih =>
            obtain ⟨b, z⟩ := p
            by_cases hb : b = a
            · subst hb; simp [Ne.symm hj]; exact ih
            · by_cases hbj : b = j
              · subst hbj; simp [hb]
              · simp [hb, hbj]; exact ih
      · have h' : ∃ x, x ∈ r ∧ decide (x.1 = k) = true := by
          obtain ⟨p, hp, e⟩ := h
          rcases List.mem_cons.mp hp with rfl | hp
          · simp at e; exact absurd e ha
          · exact ⟨p, hp, e⟩
        have ih := ih h'
        by_cases haj : a = j
        · subst haj; simp [ha]
        · simp only [List.map_cons, ha, if_false, decide_false, List.find?_cons, haj]
          exact ih
  · rw [if_neg h]
    rw [List.find?_append]
    by_cases hj : j = k
    · subst hj
      have : kvs.find? (fun p => decide (p.1 = j)) = none := by
        rw [List.find?_eq_none]
        intro p hp e
        exact h (List.any_eq_true.mpr ⟨p, hp, e⟩)
      simp [this]
    · rw [if_neg hj]
      simp [Ne.symm hj]

noncomputable def ifElse : Stmt → List Stmt
  | .If _ _ b _ => b
  | _ => []
noncomputable def fb54 : List Stmt := forBody ((ifThen ((ifElse (bd54.getD 1 (.Pass default))).getD 0 (.Pass default))).getD 0 (.Pass default))
theorem gath_loop (wc : WfC c) (hl : c.gs.length < 30000) {sup : List (Int × PyData)} (s : SupOk c sup) {X Y : Option V} {inp : List PyData} :
    ∀ (ps : List Int) (K : List Int) (y : Option V), (∀ p ∈ ps, p.natAbs < c.gs.length ∧ (dget sup (p.natAbs : Int)).isSome) → K.Nodup → natK c.gs.length K →
      ∃ K' y', (∀ B : Heap, ForR (cx2 w base) n (scOf fd54 ls54 B) (.one 4) fb54 (iD ps) [some (tV inp), X, Y, some (.od (tk K)), y] (mkG f c (rS sup)) .next [some (tV inp), X, Y, some (.od (tk K')), y'] (mkG f c (rS sup))) ∧
        K'.Nodup ∧ ∀ x, x ∈ K' ↔ x ∈ K ∨ ∃ p ∈ ps, inS c p.natAbs x
  | [], K, y, _, hn, _ => ⟨K, y, fun _ => .nil, hn, by simp⟩
  | p :: ps, K, y, hp, hn, hk => by
    have h1 := hp p (.head _)
    obtain ⟨d, hd⟩ := Option.isSome_iff_exists.mp h1.2
    obtain ⟨Kp, rfl, ok⟩ := s.ok _ _ hd
    have hkp := natK_of wc h1.1 (K := Kp) fun x hx => (ok.mem x).mp hx
    have l1 := natK_len hn hk
    have l2 := natK_len ok.nd hkp
    have es : szOk ((tk K).length + (tk Kp).length) = true := szOk_lt (by rw [tk_length, tk_length]; omega)
    have hk' : natK c.gs.length (addAll K Kp) := fun x hx => by
      rcases mem_addAll.mp hx with q | q
      · exact hk x q
      · exact hkp x q
    obtain ⟨K', y', e, h2, h3⟩ := gath_loop wc hl s (X := X) (Y := Y) (inp := inp) ps (addAll K Kp) (some (.d (.int p))) (fun q hq => hp q (.tail _ hq)) (nodup_addAll hn) hk'
    refine ⟨K', y', fun B => .turn rfl ?_ (.inl rfl) (e B), h2, fun x => ?_⟩
    · have e1 : idxG (mkG f c (rS sup)) (.int (p.natAbs : Int)) (.h 6) = some (dpack (tk Kp)) := hd
      have e2 : setF [some (tV inp), X, Y, some (.od (tk K)), some (.d (.int p))] 3 (some (.od (dmerge (tk K) (tk Kp)))) = [some (tV inp), X, Y, some (.od (tk (addAll K Kp))), some (.d (.int p))] := by rw [dmerge_tk]; rfl
      refine' TSs_cons (s_updV ?_ ?_ (asKvs_pack _) ?_ ?_ es ?_ ?_ e2) TSs_nil
      repeat' (first | exact e1 | k_upd)
    · rw [h3, mem_addAll, ok.mem]
      constructor
      · rintro ((q | q) | ⟨a, ha, q⟩)
        · exact .inl q
        · exact .inr ⟨p, .head _, q⟩
        · exact .inr ⟨a, .tail _ ha, q⟩
      · rintro (q | ⟨a, ha, q⟩)
        · exact .inl (.inl q)
        · rcases List.mem_cons.mp ha with rfl | ha
          · exact .inl (.inr q)
          · exact .inr ⟨a, ha, q⟩
theorem inS_and (w : WfC c) {h : Nat} {k : Str} {ps : List Int} (hk : c.gs[h]? = some (k, ps)) (hne : k ≠ ("input" : Str)) (x : Int) : inS c h x ↔ ∃ p ∈ ps, inS c p.natAbs x := by
  constructor
  · rintro ⟨a, rfl, ha, q⟩
    rcases q.cases' with rfl | ⟨p, hp, q⟩
    · unfold isIn at ha
      rw [ha] at hk
      have := congrArg (fun o => o.map (·.1)) hk; simp at this; exact absurd this.symm hne
    · obtain ⟨i, hi, rfl⟩ := (kids_mem hk).mp hp
      exact ⟨i, hi, a, rfl, ha, q⟩
  · rintro ⟨p, hp, a, rfl, ha, q⟩
    exact ⟨a, rfl, ha, .step ((kids_mem hk).mpr ⟨p, hp, rfl⟩) q⟩
theorem gathered_c (wc : WfC c) (hl : c.gs.length < 30000) {sup : List (Int × PyData)} (s : SupOk c sup) {h : Nat} (hh : h < c.gs.length) (hs : ∀ p ∈ kids c h, (dget sup (p : Int)).isSome) {inp : List PyData} :
    ∃ K, KOk c h K ∧ CallOk (cx2 w base) (n + 2) 54 [tV inp, .d (.int h)] (mkG f c (rS sup)) (.d (dpack (tk K))) (mkG f c (rS sup)) := by
  obtain ⟨k, ps, hk, hc⟩ := wf_kind wc hh
  have k1 := kind_c (w := w) (base := base) (n := n) (f := f) (r := rS sup) (g := (h : Int)) (show c.gs[(h : Int).natAbs]? = _ from hk) (by omega)
  have k2 := parts_c (w := w) (base := base) (n := n) (f := f) (r := rS sup) (g := (h : Int)) (show c.gs[(h : Int).natAbs]? = _ from hk) (by omega)
  rcases hc with rfl | ⟨hc, rfl⟩
  · obtain ⟨K', y', e, h2, h3⟩ := gath_loop (w := w) (base := base) (n := n + 1) (f := f) wc hl s (X := some (.d (.int h))) (Y := some (.d (.str ("and" : Str)))) (inp := inp) ps [] none
      (fun p hp => ⟨by have := kid_lt wc hk hp; omega, hs _ ((kids_mem hk).mpr ⟨p, hp, rfl⟩)⟩) (by simp) (fun x hx => by cases hx)
    refine ⟨K', ⟨h2, fun x => by rw [h3, inS_and wc hk (by decide)]; simp⟩, ?_⟩
    refine q_call (Fs := [some (tV inp), some (.d (.int h)), none, none, none]) (fn54 w base) rfl rfl fun B => ?_
    have hv : mvF [some (tV inp), some (.d (.int h)), some (.d (.str ("and" : Str))), some (.od (tk K')), y'] 3 (.od (tk K')) = some (.d (dpack (tk K')), [some (tV inp), some (.d (.int h)), some (.d (.str ("and" : Str))), none, y']) := rfl
    have hx : itemsV (.d (.tuple (iD ps))) = some (iD ps) := rfl
    apply Exists.intro
    refine' TSs_cons (F₁ := [some (tV inp), some (.d (.int h)), some (.d (.str ("and" : Str))), some (.od []), none]) (s_asg2 ?_ ?_ ?_ ?_ (TE.tw ?_) TO_dict0.tw ?_ ?_ ?_ ?_ ?_) (TSs_cons (s_if_f ?_ (TSs_cons (s_if_t ?_ (TSs_cons (s_for ?_ ?_ ?_ hx (e B) ?_) TSs_nil)) TSs_nil)) (s_ret (S_ret (q_name ?_ ?_ hv))))
    repeat' (first | (with_reducible exact k1) | (with_reducible exact k2) | (with_reducible exact eq_ai) | (with_reducible exact eq_and) | k_upd)
  · have hne : (k ≠ ("input" : Str)) → KOk c h [] := fun q => ⟨by simp, fun x => by rw [inS_and wc hk q]; simp⟩
    have end_ : eqD (.str k) (.str ("input" : Str)) = some false → eqD (.str k) (.str ("and" : Str)) = some false → CallOk (cx2 w base) (n + 2) 54 [tV inp, .d (.int h)] (mkG f c (rS sup)) (.d (dpack (tk []))) (mkG f c (rS sup)) := fun e1 e2 => by
      refine q_call (Fs := [some (tV inp), some (.d (.int h)), none, none, none]) (fn54 w base) rfl rfl fun B => ?_
      have hv : mvF [some (tV inp), some (.d (.int h)), some (.d (.str k)), some (.od []), none] 3 (.od []) = some (.d (dpack (tk [])), [some (tV inp), some (.d (.int h)), some (.d (.str k)), none, none]) := rfl
      apply Exists.intro
      refine' TSs_cons (F₁ := [some (tV inp), some (.d (.int h)), some (.d (.str k)), some (.od []), none]) (s_asg2 ?_ ?_ ?_ ?_ (TE.tw ?_) TO_dict0.tw ?_ ?_ ?_ ?_ ?_) (TSs_cons (s_if_f ?_ (TSs_cons (s_if_f ?_ TSs_nil) TSs_nil)) (s_ret (S_ret (q_name ?_ ?_ hv))))
      repeat' (first | (with_reducible exact k1) | (with_reducible exact e1) | (with_reducible exact e2) | k_upd)
    rcases hc with rfl | rfl | rfl
    · refine ⟨[(h : Int)], ⟨by simp, fun x => ?_⟩, ?_⟩
      · simp only [List.mem_cons, List.not_mem_nil, or_false]
        constructor
        · rintro rfl; exact ⟨h, rfl, hk, .refl h⟩
        · rintro ⟨a, rfl, ha, q⟩
          rcases q.cases' with rfl | ⟨p, hp, _⟩
          · rfl
          · rw [kids_of hk] at hp; simp at hp
      · refine q_call (Fs := [some (tV inp), some (.d (.int h)), none, none, none]) (fn54 w base) rfl rfl fun B => ?_
        have hv : mvF [some (tV inp), some (.d (.int h)), some (.d (.str ("input" : Str))), some (.od (tk [(h : Int)])), none] 3 (.od (tk [(h : Int)])) = some (.d (dpack (tk [(h : Int)])), [some (tV inp), some (.d (.int h)), some (.d (.str ("input" : Str))), none, none]) := rfl
        have e8 : dput [] (h : Int) (.bool true) = tk [(h : Int)] := rfl
        have es : szOk ([] : List (Int × PyData)).length = true := rfl
        apply Exists.intro
        refine' TSs_cons (F₁ := [some (tV inp), some (.d (.int h)), some (.d (.str ("input" : Str))), some (.od []), none]) (s_asg2 ?_ ?_ ?_ ?_ (TE.tw ?_) TO_dict0.tw ?_ ?_ ?_ ?_ ?_) (TSs_cons (s_if_t ?_ (TSs_cons (F₁ := [some (tV inp), some (.d (.int h)), some (.d (.str ("input" : Str))), some (.od (tk [(h : Int)])), none]) (s_setV ?_ ?_ ?_ ?_ ?_ ?_ es e8 ?_) TSs_nil)) (s_ret (S_ret (q_name ?_ ?_ hv))))
        repeat' (first | (with_reducible exact k1) | (with_reducible exact eq_ii) | k_upd)
    · exact ⟨[], hne (by decide), end_ eq_ti eq_ta⟩
    · exact ⟨[], hne (by decide), end_ eq_ei eq_ea⟩
end
section
open PySem PySem.W
variable {w : World} {base : Heap} {n : Nat} {c : Ci} {r : List O} {G : List O} {f : O}
theorem SupOk.add {sup : List (Int × PyData)} (s : SupOk c sup) {h : Nat} (hh : h < c.gs.length) (hn : dget sup (h : Int) = none) {K : List Int} (k : KOk c h K) : SupOk c (dput sup (h : Int) (dpack (tk K))) := by
  have hm : (h : Int) ∉ sup.map (·.1) := fun q => by have := dget_some.mpr q; rw [hn] at this; cases this
  have he := dput_new (x := dpack (tk K)) hm
  refine ⟨?_, ?_, fun g d hd => ?_⟩
  · rw [he, List.map_append, List.nodup_append]
    refine ⟨s.nd, by simp, fun a ha b hb e => ?_⟩
    have : b = (h : Int) := by simpa using hb
    subst this; subst e; exact hm ha
  · intro x hx
    rw [he, List.map_append] at hx
    rcases List.mem_append.mp hx with q | q
    · exact s.ky x q
    · exact ⟨h, by simpa using q, hh⟩
  · rw [dget_dput] at hd
    split at hd
    · rename_i e
      have : g = h := by omega
      subst this
      cases hd
      exact ⟨K, rfl, k⟩
    · exact s.ok g d hd
noncomputable def fb47 : List Stmt := forBody ((ifThen (bd47.getD 0 (.Pass default))).getD 0 (.Pass default))
theorem sup_loop (wc : WfC c) (hl : c.gs.length < 30000) {g : Nat} (hg : g < c.gs.length) {X : Option V} {inp : List PyData} :
    ∀ (L : List Nat) (sup : List (Int × PyData)) (y : Option V), SupOk c sup → (∀ h ∈ L, Rch c g h) → (nI L).Pairwise (· < ·) → (∀ h, Rch c g h → h ∉ L → (dget sup (h : Int)).isSome) →
      ∃ sup' y', (∀ B : Heap, ForR (cx2 w base) (n + 2) (scOf fd47 ls47 B) (.one 2) fb47 (iD (nI L)) [some (tV inp), X, y] (mkG f c (rS sup)) .next [some (tV inp), X, y'] (mkG f c (rS sup'))) ∧
        SupOk c sup' ∧ ∀ h, Rch c g h → (dget sup' (h : Int)).isSome
  | [], sup, y, s, _, _, hd => ⟨sup, y, fun _ => .nil, s, fun h q => hd h q (by simp)⟩
  | h :: L, sup, y, s, hL, hp, hd => by
    have hpw : (∀ b ∈ nI L, (h : Int) < b) ∧ (nI L).Pairwise (· < ·) := List.pairwise_cons.mp hp
    have hr := hL h (.head _)
    have hh : h < c.gs.length := by have := hr.le wc; omega
    have hin : inG (mkG f c (rS sup)) (.int (h : Int)) (.h 6) = some (dget sup (h : Int)).isSome := rfl
    cases e : dget sup (h : Int) with
    | some d =>
      have hi : inG (mkG f c (rS sup)) (.int (h : Int)) (.h 6) = some (!false) := hin.trans (by rw [e]; rfl)
      obtain ⟨sup', y', h1, h2⟩ := sup_loop wc hl hg (X := X) (inp := inp) L sup (some (.d (.int h))) s (fun a ha => hL a (.tail _ ha)) hpw.2 (fun a ha hn => by
        by_cases q : a = h
        · subst q; rw [e]; rfl
        · exact hd a ha (by simp [q, hn]))
      refine ⟨sup', y', fun B => .turn rfl ?_ (.inl rfl) (h1 B), h2⟩
      refine' TSs_cons (s_if_f ?_ TSs_nil) TSs_nil
      repeat' (first | exact hi | k_upd)
    | none =>
      have hi : inG (mkG f c (rS sup)) (.int (h : Int)) (.h 6) = some (!true) := hin.trans (by rw [e]; rfl)
      obtain ⟨K, k, hk⟩ := gathered_c (w := w) (base := base) (n := n) (f := f) wc hl s hh (fun p hp => by
        have q := kids_lt wc hp
        refine hd p (hr.trans (.step hp (.refl p))) ?_
        rw [List.mem_cons]
        rintro (rfl | m)
        · omega
        · have := hpw.1 p (mem_nI.mpr m); omega) (inp := inp)
      have es : szOk sup.length = true := szOk_lt (by have := s.len; omega)
      have hset : setO (.int (h : Int)) (dpack (tk K)) (.di sup) = some (.di (dput sup (h : Int) (dpack (tk K)))) := by
        show (if szOk sup.length then some (O.di (dput sup (h : Int) (dpack (tk K)))) else none) = _
        rw [es]; rfl
      have hO : (mkG f c (rS sup)).set 6 (.di (dput sup (h : Int) (dpack (tk K)))) = mkG f c (rS (dput sup (h : Int) (dpack (tk K)))) := rfl
      obtain ⟨sup', y', h1, h2⟩ := sup_loop wc hl hg (X := X) (inp := inp) L (dput sup (h : Int) (dpack (tk K))) (some (.d (.int h))) (s.add hh e k) (fun a ha => hL a (.tail _ ha)) hpw.2 (fun a ha hn => by
        rw [dget_dput]
        by_cases q : a = h
        · subst q; simp
        · rw [if_neg (by omega)]
          exact hd a ha (by simp [q, hn]))
      refine ⟨sup', y', fun B => .turn rfl ?_ (.inl rfl) (h1 B), h2⟩
      refine' TSs_cons (s_if_t ?_ (TSs_cons (s_setA ?_ ?_ ?_ ?_ ?_ ?_ ?_ ?_ ?_ hset hO) TSs_nil)) TSs_nil
      repeat' (first | exact hi | (with_reducible exact hk) | k_upd)
theorem support_c (wc : WfC c) (hl : c.gs.length < 30000) {sup : List (Int × PyData)} (s : SupOk c sup) {g : Nat} (hg : g < c.gs.length) (h64 : (undL c g).length < 64) {inp : List PyData} :
    ∃ sup' K, SupOk c sup' ∧ KOk c g K ∧ CallOk (cx2 w base) (n + 3) 47 [tV inp, .d (.int g)] (mkG f c (rS sup)) (.d (dpack (tk K))) (mkG f c (rS sup')) := by
  have hin : inG (mkG f c (rS sup)) (.int (g : Int)) (.h 6) = some (dget sup (g : Int)).isSome := rfl
  cases e : dget sup (g : Int) with
  | some d =>
    obtain ⟨K, rfl, k⟩ := s.ok g d e
    refine ⟨sup, K, s, k, ?_⟩
    have hi : inG (mkG f c (rS sup)) (.int ((g : Int).natAbs : Int)) (.h 6) = some (!false) := hin.trans (by rw [e]; rfl)
    have hd : idxG (mkG f c (rS sup)) (.int ((g : Int).natAbs : Int)) (.h 6) = some (dpack (tk K)) := e
    refine q_call (Fs := [some (tV inp), some (.d (.int g)), none]) (fn47 w base) rfl rfl fun B => ?_
    apply Exists.intro
    refine' TSs_cons (s_if_f ?_ TSs_nil) (s_ret (S_ret ?_))
    repeat' (first | exact hi | exact hd | k_upd)
  | none =>
    have hi : inG (mkG f c (rS sup)) (.int ((g : Int).natAbs : Int)) (.h 6) = some (!true) := hin.trans (by rw [e]; rfl)
    have hb := below_c (w := w) (base := base) (n := n) (f := f) (r := rS sup) wc hl (g := (g : Int)) hg h64 (inp := inp)
    rw [show (g : Int).natAbs = g from rfl] at hb
    obtain ⟨sup', y', h1, h2, h3⟩ := sup_loop (w := w) (base := base) (n := n) (f := f) wc hl hg (X := some (.d (.int g))) (inp := inp) (undL c g) sup none s (fun h q => (mem_undL wc).mp q) (undL_lt c g) (fun h q q' => absurd ((mem_undL wc).mpr q) q')
    obtain ⟨d, hd⟩ := Option.isSome_iff_exists.mp (h3 g (.refl g))
    obtain ⟨K, rfl, k⟩ := h2.ok g d hd
    refine ⟨sup', K, h2, k, ?_⟩
    have hd' : idxG (mkG f c (rS sup')) (.int ((g : Int).natAbs : Int)) (.h 6) = some (dpack (tk K)) := hd
    have hx : itemsV (.d (.list (iD (nI (undL c g))))) = some (iD (nI (undL c g))) := rfl
    refine q_call (Fs := [some (tV inp), some (.d (.int g)), none]) (fn47 w base) rfl rfl fun B => ?_
    apply Exists.intro
    refine' TSs_cons (s_if_t ?_ (TSs_cons (s_for ?_ ?_ ?_ hx (h1 B) ?_) TSs_nil)) (s_ret (S_ret ?_))
    repeat' (first | exact hi | (with_reducible exact hb) | exact hd' | k_upd)

/-! turned -/
noncomputable def tvN (t : Nat → Option Int) (p : Nat) : Int := (t p).getD p
noncomputable def tv (t : Nat → Option Int) (p : Int) : Int := if 0 < p then tvN t p.natAbs else - tvN t p.natAbs
noncomputable def TR (kvs : List (Int × PyData)) (t : Nat → Option Int) : Prop := ∀ k : Nat, dget kvs (k : Int) = (t k).map .int
theorem turned_c {kvs : List (Int × PyData)} {t : Nat → Option Int} (h : TR kvs t) (p : Int) {inp : List PyData} :
    CallOk (cx2 w base) (n + 1) 61 [tV inp, .d (.int p), .rd kvs] G (.d (.int (tv t p))) G := by
  have e : (dget kvs (p.natAbs : Int)).getD (.int (p.natAbs : Int)) = .int (tvN t p.natAbs) := by
    rw [h]
    unfold tvN
    cases t p.natAbs <;> rfl
  refine q_call (Fs := [some (tV inp), some (.d (.int p)), some (.rd kvs), none]) (fn61 w base) rfl rfl fun B => ?_
  by_cases hp : 0 < p
  · have hz : decide (0 < p) = true := decide_eq_true hp
    have ht : tv t p = tvN t p.natAbs := if_pos hp
    rw [ht]
    apply Exists.intro
    refine' TSs_cons (F₁ := [some (tV inp), some (.d (.int p)), some (.rd kvs), some (.d (.int (tvN t p.natAbs)))]) (s_asg ?_ ?_ ?_ (q_get (u := cV) ?_ ?_ ?_ ?_ ?_ e ?_ ?_ ?_) ?_) (s_ret (S_ret (q_ite_t ?_ ?_)))
    repeat' (first | (with_reducible exact hz) | k_upd)
  · have hz : decide (0 < p) = false := decide_eq_false hp
    have ht : tv t p = -tvN t p.natAbs := if_neg hp
    rw [ht]
    apply Exists.intro
    refine' TSs_cons (F₁ := [some (tV inp), some (.d (.int p)), some (.rd kvs), some (.d (.int (tvN t p.natAbs)))]) (s_asg ?_ ?_ ?_ (q_get (u := cV) ?_ ?_ ?_ ?_ ?_ e ?_ ?_ ?_) ?_) (s_ret (S_ret (q_ite_f ?_ ?_)))
    repeat' (first | (with_reducible exact hz) | k_upd)
end
section
open PySem PySem.W
variable {w : World} {base : Heap} {n : Nat} {c : Ci} {r : List O} {G : List O} {f : O}
theorem nodup_sub : ∀ {l l' : List Nat}, l.Nodup → (∀ x ∈ l, x ∈ l') → l.length ≤ l'.length
  | [], _, _, _ => by simp
  | a :: l, l', hn, h => by
    rw [List.nodup_cons] at hn
    have ha := h a (.head _)
    have := nodup_sub (l' := l'.erase a) hn.2 fun x hx => by
      have : x ≠ a := fun e => hn.1 (e ▸ hx)
      exact (List.mem_erase_of_ne this).mpr (h x (.tail _ hx))
    rw [List.length_erase_of_mem ha] at this
    have := List.length_pos_of_mem ha
    simp only [List.length_cons]
    omega
theorem undL_nodup (c : Ci) (g : Nat) : (undL c g).Nodup := by
  have := undL_lt c g
  unfold nI at this
  rw [List.pairwise_map] at this
  exact this.imp fun {a b} q e => by omega
theorem undL_ext {c c' : Ci} (w : WfC c) (x : Ext c c') {g : Nat} (hg : g < c.gs.length) : undL c' g = undL c g := by
  unfold undL
  refine List.filter_congr fun h _ => ?_
  rw [Bool.eq_iff_iff]
  simp only [decide_eq_true_eq]
  exact Rch.ext w x hg
theorem undL_le {c : Ci} (w : WfC c) {g h : Nat} (q : Rch c g h) : (undL c h).length ≤ (undL c g).length :=
  nodup_sub (undL_nodup c h) fun x hx => (mem_undL w).mpr (q.trans ((mem_undL w).mp hx))
theorem inS_ext {c c' : Ci} (w : WfC c) (x : Ext c c') (hi : ∀ (i : Nat) (ps : List Int), c'.gs[i]? = some (("input" : Str), ps) → c.gs[i]? = some (("input" : Str), ps)) {g : Nat} (hg : g < c.gs.length) (y : Int) : inS c' g y ↔ inS c g y := by
  constructor
  · rintro ⟨a, rfl, ha, q⟩
    exact ⟨a, rfl, hi a [] ha, (Rch.ext w x hg).mp q⟩
  · rintro ⟨a, rfl, ha, q⟩
    exact ⟨a, rfl, x.pre a _ ha, (Rch.ext w x hg).mpr q⟩
theorem SupOk.ext {c c' : Ci} (w : WfC c) (x : Ext c c') (hi : ∀ (i : Nat) (ps : List Int), c'.gs[i]? = some (("input" : Str), ps) → c.gs[i]? = some (("input" : Str), ps)) {sup : List (Int × PyData)} (s : SupOk c sup) : SupOk c' sup := by
  refine ⟨s.nd, fun y hy => ?_, fun g d hd => ?_⟩
  · obtain ⟨a, e, h⟩ := s.ky y hy
    exact ⟨a, e, Nat.lt_of_lt_of_le h x.len⟩
  · obtain ⟨K, e, k⟩ := s.ok g d hd
    have hm := dget_some.mp (by rw [hd]; rfl)
    obtain ⟨a, ea, ha⟩ := s.ky _ hm
    have : g = a := by omega
    subst this
    exact ⟨K, e, k.nd, fun y => by rw [k.mem, inS_ext w x hi ha]⟩

noncomputable def kps (c : Ci) (h : Nat) : List Int := match c.gs[h]? with
  | some y => y.2
  | none => []
open Classical in
/-- one turn of settled -/
noncomputable def stL (c0 : Ci) (x : Nat) (tc : (Nat → Option Int) × Ci) (h : Nat) : (Nat → Option Int) × Ci :=
  if h ≠ x ∧ Rch c0 h x then (fun k => if k = h then some (allOf tc.2 ((kps c0 h).map (tv tc.1))).1 else tc.1 k, (allOf tc.2 ((kps c0 h).map (tv tc.1))).2) else tc
structure SI (c0 : Ci) (tc : (Nat → Option Int) × Ci) : Prop where
  w : WfC tc.2
  x : Ext c0 tc.2
  a : ∀ p, 1 ≤ p → p < c0.gs.length → litC tc.2 (tvN tc.1 p)
  inp : ∀ (i : Nat) (ps : List Int), tc.2.gs[i]? = some (("input" : Str), ps) → c0.gs[i]? = some (("input" : Str), ps)
theorem litC_tv {c : Ci} {t : Nat → Option Int} {p : Int} (h : litC c (tvN t p.natAbs)) : litC c (tv t p) := by
  unfold tv
  split
  · exact h
  · exact h.neg
theorem kps_of {c : Ci} {g : Nat} {k : Str} {ps : List Int} (h : c.gs[g]? = some (k, ps)) : kps c g = ps := by unfold kps; rw [h]
theorem SI.lits {c0 : Ci} (w0 : WfC c0) {tc : (Nat → Option Int) × Ci} (s : SI c0 tc) {h : Nat} (hh : h < c0.gs.length) : (∀ g ∈ (kps c0 h).map (tv tc.1), 1 ≤ g.natAbs ∧ g.natAbs < tc.2.gs.length) ∧ ((kps c0 h).map (tv tc.1)).length ≤ 3 := by
  obtain ⟨k, ps, hk, _⟩ := wf_kind w0 hh
  rw [kps_of hk]
  refine ⟨fun g hg => ?_, ?_⟩
  · obtain ⟨p, hp, rfl⟩ := List.mem_map.mp hg
    have := kid_lt w0 hk hp
    exact litC_tv (s.a p.natAbs (by omega) (by omega))
  · have := kids_len w0 (g := h)
    rw [kids_of hk] at this
    simpa using this
theorem SI.step {c0 : Ci} (w0 : WfC c0) {tc : (Nat → Option Int) × Ci} (s : SI c0 tc) {x h : Nat} (hh : h < c0.gs.length) :
    SI c0 (stL c0 x tc h) ∧ Ext tc.2 (stL c0 x tc h).2 ∧ (stL c0 x tc h).2.gs.length ≤ tc.2.gs.length + 1 ∧ (stL c0 x tc h).2.kn.length ≤ tc.2.kn.length + 1 := by
  unfold stL
  split
  · obtain ⟨l1, l2⟩ := s.lits w0 hh
    have ok := allOf_ok s.w l1 l2
    refine ⟨⟨ok.w, s.x.trans ok.x, fun p h1 h2 => ?_, fun i ps q => s.inp i ps (ok.inp i ps q)⟩, ok.x, ok.len, ok.kln⟩
    show litC _ (tvN (fun k => if k = h then _ else tc.1 k) p)
    unfold tvN
    simp only
    split
    · exact ⟨ok.v1, ok.v2⟩
    · exact (s.a p h1 h2).ext ok.x
  · exact ⟨s, .refl _, by omega, by omega⟩
theorem dput_len {kvs : List (Int × PyData)} {k : Int} {x : PyData} : (dput kvs k x).length ≤ kvs.length + 1 := by
  unfold dput; split <;> simp
theorem TR.put {kvs : List (Int × PyData)} {t : Nat → Option Int} (h : TR kvs t) (k : Nat) (v : Int) : TR (dput kvs (k : Int) (.int v)) (fun j => if j = k then some v else t j) := by
  intro j
  rw [dget_dput]
  by_cases e : j = k
  · subst e; simp
  · rw [if_neg (by omega)]
    show _ = Option.map PyData.int (if j = k then some v else t j)
    rw [if_neg e]; exact h j

noncomputable def fb66 : List Stmt := forBody (bd66.getD 1 (.Pass default))
theorem inKs (G : List O) (x : Int) (K : List Int) : inG G (.int x) (.d (dpack (tk K))) = some (decide (x ∈ K)) := by
  show (asKvs ((tk K).map fun p => (PyData.int p.1, p.2))).map (fun q => (dget q x).isSome) = _
  rw [asKvs_pack, ← dget_tk]; rfl
theorem set_step {c0 : Ci} (w0 : WfC c0) {t : Nat → Option Int} {kvs : List (Int × PyData)} {sup : List (Int × PyData)} {x h : Nat} (hx : isIn c0 x) (hh : h < c0.gs.length) (h64 : (undL c0 h).length < 64)
    (s : SI c0 (t, c)) (tr : TR kvs t) (so : SupOk c sup) (hl : c.gs.length < 29000) (hk : c.kn.length < 29000) (hv : kvs.length < 10000) {inp : List PyData} {X Z : Option V} :
    ∃ kvs' sup', (∀ B : Heap, TSs (cx2 w base) (n + 3) (scOf fd66 ls66 B) fb66 [some (tV inp), X, some (.d (.int x)), Z, some (.od kvs), some (.d (.int h))] (mkG f c (rS sup)) .next
        [some (tV inp), X, some (.d (.int x)), Z, some (.od kvs'), some (.d (.int h))] (mkG f (stL c0 x (t, c) h).2 (rS sup'))) ∧
      TR kvs' (stL c0 x (t, c) h).1 ∧ SupOk (stL c0 x (t, c) h).2 sup' ∧ kvs'.length ≤ kvs.length + 1 := by
  have hhc : h < c.gs.length := Nat.lt_of_lt_of_le hh s.x.len
  by_cases e : h = x
  · subst e
    have hst : stL c0 h (t, c) h = (t, c) := by unfold stL; rw [if_neg (by simp)]
    have e1 : eqD (.int (h : Int)) (.int (h : Int)) = some (!false) := eqD_t rfl
    rw [hst]
    refine ⟨kvs, sup, fun B => ?_, tr, so, by omega⟩
    refine' TSs_cons (s_if_f (b_and_f ?_) TSs_nil) TSs_nil
    repeat' (first | (with_reducible exact e1) | k_upd)
  · have e1 : eqD (.int (h : Int)) (.int (x : Int)) = some (!true) := eqD_f (by omega)
    have hu : (undL c h).length < 64 := by rw [undL_ext w0 s.x hh]; exact h64
    obtain ⟨sup', K, s1, k, hs⟩ := support_c (w := w) (base := base) (n := n) (f := f) s.w (by show c.gs.length < _; omega) so hhc hu (inp := inp)
    have hK : (x : Int) ∈ K ↔ Rch c0 h x := by
      rw [k.mem]
      constructor
      · rintro ⟨a, ea, _, q⟩
        have : x = a := by omega
        subst this
        exact (Rch.ext w0 s.x hh).mp q
      · intro q; exact ⟨x, rfl, s.x.pre _ _ hx, (Rch.ext w0 s.x hh).mpr q⟩
    have hin := inKs (mkG f c (rS sup')) x K
    by_cases hd : Rch c0 h x
    · have hst : stL c0 x (t, c) h = (fun k => if k = h then some (allOf c ((kps c0 h).map (tv t))).1 else t k, (allOf c ((kps c0 h).map (tv t))).2) := by
        unfold stL; rw [if_pos ⟨e, hd⟩]
      obtain ⟨l1, l2⟩ := s.lits w0 hh
      have ok := allOf_ok s.w l1 l2
      obtain ⟨kd, ps, hkd, _⟩ := wf_kind w0 hh
      have k2 := parts_c (w := w) (base := base) (n := n + 2) (f := f) (r := rS sup') (g := (h : Int)) (show c.gs[(h : Int).natAbs]? = _ from s.x.pre _ _ hkd) (by omega)
      have ek : kps c0 h = ps := kps_of hkd
      rw [ek] at l2 hst ok
      rw [List.length_map] at l2
      have ea := all_of_c (w := w) (base := base) (n := n + 1) (f := f) (r := rS sup') (c := c) (lits := ps.map (tv t)) (X := .list (iD (ps.map (tv t)))) (.inl rfl) (by omega) (by omega) (by simp; omega)
      have es : szOk (iD (ps.map (tv t))).length = true := szOk_lt (by simp [iD]; omega)
      have es2 : szOk kvs.length = true := szOk_lt (by omega)
      rw [decide_eq_true (hK.mpr hd)] at hin
      have hv' : itemsV (.d (.tuple (iD ps))) = some (iD ps) := rfl
      have em : ps.map (fun p => PyData.int (tv t p)) = iD (ps.map (tv t)) := by simp [iD]
      rw [hst]
      refine ⟨dput kvs (h : Int) (.int (allOf c (ps.map (tv t))).1), sup', fun B => ?_, tr.put h _, s1.ext s.w ok.x ok.inp, dput_len⟩
      refine' TSs_cons (s_if_t (b_and_t ?_ ?_) (TSs_cons (s_setV ?_ ?_ (q_mc (m_all_of _ _) ?_ (TA_cons ?_ (q_comp (core1 (own := 1) ?_ ?_ hv' ?_ (fun B => rfl) (fun B => .inl rfl) ?_ ?_ es) ?_ ?_) TA_nil) ea ?_ ?_ ?_ ?_ ?_) ?_ ?_ ?_ es2 ?_ ?_) TSs_nil)) TSs_nil
      repeat' (first | (with_reducible exact e1) | (with_reducible exact hs) | (with_reducible exact hin) | (with_reducible exact k2) | k_upd)
      refine em ▸ steps_pure (g := PyData.int) (h := fun p => PyData.int (tv t p)) ps fun p _ => ⟨[some (tV inp), X.map ro, some (.d (.int x)), Z.map ro, some (.rd kvs), some (.d (.int h)), some (.d (.int p))], _, rfl, fun B' => ?_, rfl⟩
      have ht := turned_c (w := w) (base := base) (n := n + 2) (G := mkG f c (rS sup')) tr p (inp := inp)
      repeat' (first | (with_reducible exact ht) | k_upd)
    · have hst : stL c0 x (t, c) h = (t, c) := by unfold stL; rw [if_neg (fun q => hd q.2)]
      rw [decide_eq_false (fun q => hd (hK.mp q))] at hin
      rw [hst]
      refine ⟨kvs, sup', fun B => ?_, tr, s1, by omega⟩
      refine' TSs_cons (s_if_f (b_and_t ?_ ?_) TSs_nil) TSs_nil
      repeat' (first | (with_reducible exact e1) | (with_reducible exact hs) | (with_reducible exact hin) | k_upd)
end
section
open PySem PySem.W
variable {w : World} {base : Heap} {n : Nat} {c : Ci} {r : List O} {G : List O} {f : O}
theorem set_loop {c0 : Ci} (w0 : WfC c0) {x : Nat} (hx : isIn c0 x) {inp : List PyData} {X Z : Option V} :
    ∀ (L : List Nat) (tc : (Nat → Option Int) × Ci) (kvs sup : List (Int × PyData)) (y : Option V), (∀ h ∈ L, h < c0.gs.length ∧ (undL c0 h).length < 64) → SI c0 tc → TR kvs tc.1 → SupOk tc.2 sup →
      tc.2.gs.length + L.length < 29000 → tc.2.kn.length + L.length < 29000 → kvs.length + L.length < 10000 →
      ∃ kvs' sup' y', (∀ B : Heap, ForR (cx2 w base) (n + 3) (scOf fd66 ls66 B) (.one 5) fb66 (iD (nI L)) [some (tV inp), X, some (.d (.int x)), Z, some (.od kvs), y] (mkG f tc.2 (rS sup)) .next
          [some (tV inp), X, some (.d (.int x)), Z, some (.od kvs'), y'] (mkG f (L.foldl (stL c0 x) tc).2 (rS sup'))) ∧
        TR kvs' (L.foldl (stL c0 x) tc).1 ∧ SupOk (L.foldl (stL c0 x) tc).2 sup'
  | [], tc, kvs, sup, y, _, _, tr, so, _, _, _ => ⟨kvs, sup, y, fun _ => .nil, tr, so⟩
  | h :: L, tc, kvs, sup, y, hL, s, tr, so, l1, l2, l3 => by
    simp only [List.length_cons] at l1 l2 l3
    obtain ⟨t, c⟩ := tc
    have hh := hL h (.head _)
    obtain ⟨kvs1, sup1, e, tr1, so1, lk⟩ := set_step (w := w) (base := base) (n := n) (f := f) (inp := inp) (X := X) (Z := Z) w0 hx hh.1 hh.2 s tr so (by simp only at l1; omega) (by simp only at l2; omega) (by omega)
    obtain ⟨s1, _, g1, g2⟩ := s.step w0 (x := x) hh.1
    obtain ⟨kvs', sup', y', e2, q⟩ := set_loop w0 hx (inp := inp) (X := X) (Z := Z) L (stL c0 x (t, c) h) kvs1 sup1 (some (.d (.int h))) (fun a ha => hL a (.tail _ ha)) s1 tr1 so1 (by omega) (by omega) (by omega)
    exact ⟨kvs', sup', y', fun B => .turn rfl (e B) (.inl rfl) (e2 B), q⟩

noncomputable def t0 (x : Nat) (b : Bool) : Nat → Option Int := fun k => if k = x then some (if b then 1 else -1) else none
/-- settled: its table and its circuit -/
noncomputable def stt (c : Ci) (g x : Nat) (b : Bool) : (Nat → Option Int) × Ci := (undL c g).foldl (stL c x) (t0 x b, c)
theorem SI.start (wc : WfC c) {x : Nat} {b : Bool} : SI c (t0 x b, c) := by
  refine ⟨wc, .refl c, fun p h1 h2 => ?_, fun _ _ h => h⟩
  have := wc.len
  unfold tvN t0
  simp only
  split
  · cases b
    · exact ⟨Nat.le_refl 1, by show 1 < c.gs.length; omega⟩
    · exact ⟨Nat.le_refl 1, by show 1 < c.gs.length; omega⟩
  · exact ⟨h1, h2⟩
theorem SI.fold {c0 : Ci} (w0 : WfC c0) {x : Nat} : ∀ (L : List Nat) (tc : (Nat → Option Int) × Ci), (∀ h ∈ L, h < c0.gs.length) → SI c0 tc →
    SI c0 (L.foldl (stL c0 x) tc) ∧ Ext tc.2 (L.foldl (stL c0 x) tc).2 ∧ (L.foldl (stL c0 x) tc).2.gs.length ≤ tc.2.gs.length + L.length ∧ (L.foldl (stL c0 x) tc).2.kn.length ≤ tc.2.kn.length + L.length
  | [], tc, _, s => ⟨s, .refl _, by simp, by simp⟩
  | h :: L, tc, hL, s => by
    obtain ⟨s1, x1, g1, g2⟩ := s.step w0 (x := x) (hL h (.head _))
    obtain ⟨s2, x2, g3, g4⟩ := SI.fold w0 (x := x) L _ (fun a ha => hL a (.tail _ ha)) s1
    simp only [List.foldl_cons, List.length_cons]
    exact ⟨s2, x1.trans x2, by omega, by omega⟩
theorem fold_some {c0 : Ci} {x : Nat} : ∀ (L : List Nat) (tc : (Nat → Option Int) × Ci) (k : Nat), ((tc.1 k).isSome ∨ (k ∈ L ∧ k ≠ x ∧ Rch c0 k x)) → ((L.foldl (stL c0 x) tc).1 k).isSome
  | [], _, _, h => h.resolve_right (by simp)
  | h :: L, tc, k, hk => by
    rw [List.foldl_cons]
    refine fold_some L _ k ?_
    by_cases e : k = h
    · subst e
      rcases hk with q | ⟨_, q⟩
      · left
        unfold stL
        split
        · simp
        · exact q
      · left
        unfold stL
        rw [if_pos q]; simp
    · rcases hk with q | ⟨m, q⟩
      · left
        unfold stL
        split
        · show (if k = h then _ else tc.1 k).isSome
          rw [if_neg e]; exact q
        · exact q
      · exact .inr ⟨(List.mem_cons.mp m).resolve_left e, q⟩
theorem settled_c (wc : WfC c) {g x : Nat} {b : Bool} (hg : g < c.gs.length) (hx : isIn c x) (hr : Rch c g x) (h64 : (undL c g).length < 64) {sup : List (Int × PyData)} (so : SupOk c sup)
    (hl : c.gs.length < 28000) (hk : c.kn.length < 28000) {inp : List PyData} :
    ∃ sup', SupOk (stt c g x b).2 sup' ∧ CallOk (cx2 w base) (n + 4) 66 [tV inp, .d (.int g), .d (.int x), .d (.int (if b then 1 else -1))] (mkG f c (rS sup)) (.d (.int (tvN (stt c g x b).1 g))) (mkG f (stt c g x b).2 (rS sup')) := by
  have hb := below_c (w := w) (base := base) (n := n + 1) (f := f) (r := rS sup) wc (by omega) (g := (g : Int)) hg h64 (inp := inp)
  rw [show (g : Int).natAbs = g from rfl] at hb
  have tr0 : TR [((x : Int), PyData.int (if b then 1 else -1))] (t0 x b) := fun k => by
    unfold dget t0
    by_cases e : k = x
    · subst e; simp
    · rw [if_neg e]
      have : ¬ (x : Int) = (k : Int) := by omega
      simp [this]
  obtain ⟨kvs', sup', y', e, tr, so'⟩ := set_loop (w := w) (base := base) (n := n) (f := f) (inp := inp) (X := some (.d (.int g))) (Z := some (.d (.int (if b then 1 else -1)))) wc hx (undL c g) (t0 x b, c) [((x : Int), PyData.int (if b then 1 else -1))] sup none
    (fun h hh => by
      have q := (mem_undL wc).mp hh
      have := q.le wc
      have := undL_le wc q
      exact ⟨by omega, by omega⟩) (.start wc) tr0 so (by show c.gs.length + _ < _; omega) (by show c.kn.length + _ < _; omega) (by simp; omega)
  refine ⟨sup', so', ?_⟩
  have hs : ((stt c g x b).1 g).isSome := by
    refine fold_some _ _ g ?_
    by_cases q : g = x
    · left; subst q; simp [t0]
    · exact .inr ⟨(mem_undL wc).mpr (.refl g), q, hr⟩
  obtain ⟨v, hv⟩ := Option.isSome_iff_exists.mp hs
  have hd : ∀ G : List O, idxG G (.int (g : Int)) (.od kvs') = some (.int (tvN (stt c g x b).1 g)) := fun G => by
    show dget kvs' (g : Int) = _
    rw [tr g]
    show Option.map _ ((stt c g x b).1 g) = _
    unfold tvN
    rw [hv]; rfl
  have e' : ∀ B : Heap, ForR (cx2 w base) (n + 3) (scOf fd66 ls66 B) (.one 5) fb66 (iD (nI (undL c g))) [some (tV inp), some (.d (.int g)), some (.d (.int x)), some (.d (.int (if b then 1 else -1))), some (.od [((x : Int), PyData.int (if b then 1 else -1))]), none] (mkG f c (rS sup)) .next
          [some (tV inp), some (.d (.int g)), some (.d (.int x)), some (.d (.int (if b then 1 else -1))), some (.od kvs'), y'] (mkG f (stt c g x b).2 (rS sup')) := e
  generalize (if b then (1 : Int) else -1) = val at *
  have hx' : itemsV (.d (.list (iD (nI (undL c g))))) = some (iD (nI (undL c g))) := rfl
  refine q_call (Fs := [some (tV inp), some (.d (.int g)), some (.d (.int x)), some (.d (.int val)), none, none]) (fn66 w base) rfl rfl fun B => ?_
  apply Exists.intro
  refine' TSs_cons (F₁ := [some (tV inp), some (.d (.int g)), some (.d (.int x)), some (.d (.int val)), some (.od [((x : Int), PyData.int val)]), none]) (s_asgO ?_ ?_ ?_ (TO_dict1 ?_ ?_) ?_) (TSs_cons (s_for ?_ ?_ ?_ hx' (e' B) ?_) (s_ret (S_ret ?_)))
  repeat' (first | (with_reducible exact hb) | exact hd _ | k_upd)
end
section
open PySem PySem.W
variable {c c0 : Ci}
noncomputable def updE (ρ : Nat → Bool) (x : Nat) (b : Bool) : Nat → Bool := fun i => if i = x then b else ρ i
theorem vl_indep (w : WfC c) {ρ : Nat → Bool} {x : Nat} {b : Bool} : ∀ (n h : Nat), h < n → ¬ Rch c h x → vl c (updE ρ x b) h = vl c ρ h
  | 0, _, h, _ => by omega
  | n + 1, h, hn, hr => by
    by_cases hl : h < c.gs.length
    · obtain ⟨k, ps, hk, _⟩ := wf_kind w hl
      by_cases e : k = ("input" : Str)
      · subst e
        rw [vl_in hk, vl_in hk]
        unfold updE
        rw [if_neg]
        rintro rfl
        exact hr (.refl h)
      · rw [vl_and w hk e, vl_and w hk e]
        refine all_congr' fun p hp => ?_
        have := kid_lt w hk hp
        have q := vl_indep w (ρ := ρ) (x := x) (b := b) n p.natAbs (by omega) (fun q => hr (.step ((kids_mem hk).mpr ⟨p, hp, rfl⟩) q))
        unfold lv
        rw [q]
    · have : c.gs[h]? = none := List.getElem?_eq_none_iff.mpr (by omega)
      unfold vl vlf
      rw [this]
structure MI (c0 : Ci) (x : Nat) (b : Bool) (g : Nat) (L : List Nat) (tc : (Nat → Option Int) × Ci) : Prop where
  s : SI c0 tc
  tx : tc.1 x = some (if b then 1 else -1)
  dom : ∀ y, (tc.1 y).isSome → y = x ∨ Rch c0 y x
  sem : ∀ h, Rch c0 g h → h ∉ L → ∀ ρ, lv tc.2 ρ (tvN tc.1 h) = vl c0 (updE ρ x b) h
  inp : ∀ h, Rch c0 g h → h ∉ L → ∀ y, isIn tc.2 y → Rch tc.2 (tvN tc.1 h).natAbs y → y ≠ x ∧ Rch c0 h y
  old : ∀ h, Rch c0 g h → h ∉ L → ∀ y, Rch tc.2 (tvN tc.1 h).natAbs y → ∃ h', Rch c0 h h' ∧ y = (tvN tc.1 h').natAbs
  ss : ∀ h, Rch c0 g h → h ∉ L → ∀ h2 ∈ L, h < h2
theorem MI.step (w0 : WfC c0) {x : Nat} {b : Bool} {g h : Nat} {L : List Nat} {tc : (Nat → Option Int) × Ci} (hx : isIn c0 x) (hg : g < c0.gs.length) (hg2 : 2 ≤ g) (hr : Rch c0 g h) (hp : ∀ h2 ∈ L, h < h2) (m : MI c0 x b g (h :: L) tc) : MI c0 x b g L (stL c0 x tc h) := by
  have hle := hr.le w0
  have hlt : h < c0.gs.length := by omega
  have h2 := hr.two w0 hg2
  obtain ⟨s1, x1, _, _⟩ := m.s.step w0 (x := x) hlt
  have hxx := (w0.in_nil hx).2
  have ss' : ∀ h1, Rch c0 g h1 → h1 ∉ L → ∀ h2 ∈ L, h1 < h2 := fun h1 q1 q2 h2 q3 => by
    by_cases e : h1 = h
    · exact e ▸ hp h2 q3
    · exact m.ss h1 q1 (by simp [e, q2]) h2 (.tail _ q3)
  by_cases hd : h ≠ x ∧ Rch c0 h x
  · -- a new gate
    have hst : stL c0 x tc h = (fun k => if k = h then some (allOf tc.2 ((kps c0 h).map (tv tc.1))).1 else tc.1 k, (allOf tc.2 ((kps c0 h).map (tv tc.1))).2) := by
      unfold stL; rw [if_pos hd]
    obtain ⟨l1, l2⟩ := m.s.lits w0 hlt
    have ok := allOf_ok m.s.w l1 l2
    obtain ⟨k, ps, hk, _⟩ := wf_kind w0 hlt
    rw [kps_of hk] at hst l1 l2 ok
    rw [hst] at s1 x1 ⊢
    have hne : k ≠ ("input" : Str) := by
      rintro rfl
      rcases hd.2.cases' with e | ⟨p, hp', _⟩
      · exact hd.1 e.symm
      · have := (w0.in_nil hk).1
        unfold isIn at this
        rw [kids_of this] at hp'; simp at hp'
    have hkid : ∀ p ∈ ps, Rch c0 g p.natAbs ∧ p.natAbs ∉ h :: L ∧ p.natAbs < h ∧ 2 ≤ p.natAbs ∧ Rch c0 h p.natAbs := fun p hp' => by
      have q := kid_lt w0 hk hp'
      have q2 : Rch c0 h p.natAbs := .step ((kids_mem hk).mpr ⟨p, hp', rfl⟩) (.refl _)
      refine ⟨hr.trans q2, ?_, q.2, q.1, q2⟩
      rw [List.mem_cons]
      rintro (e | q3)
      · omega
      · have := hp _ q3; omega
    have tn : ∀ k', k' ≠ h → tvN (fun k => if k = h then some (allOf tc.2 (ps.map (tv tc.1))).1 else tc.1 k) k' = tvN tc.1 k' := fun k' e => by
      unfold tvN; simp only [if_neg e]
    have th : tvN (fun k => if k = h then some (allOf tc.2 (ps.map (tv tc.1))).1 else tc.1 k) h = (allOf tc.2 (ps.map (tv tc.1))).1 := by
      unfold tvN; simp only [if_true]; rfl
    have lval : ∀ h1, h1 < c0.gs.length → 1 ≤ h1 → (tvN tc.1 h1).natAbs < tc.2.gs.length := fun h1 q1 q2 => (m.s.a h1 q2 q1).2
    have isI : ∀ y, isIn (allOf tc.2 (ps.map (tv tc.1))).2 y → isIn tc.2 y := fun y q => ok.inp y [] q
    have litrch : ∀ p ∈ ps, ∀ y, Rch (allOf tc.2 (ps.map (tv tc.1))).2 (tv tc.1 p).natAbs y → Rch tc.2 (tvN tc.1 p.natAbs).natAbs y := fun p hp' y q => by
      have e : (tv tc.1 p).natAbs = (tvN tc.1 p.natAbs).natAbs := by unfold tv; split <;> simp
      rw [e] at q
      have := hkid p hp'
      exact (Rch.ext m.s.w ok.x (lval _ (by omega) (by omega))).mp q
    refine ⟨s1, ?_, ?_, ?_, ?_, ?_, ss'⟩
    · show (if x = h then _ else tc.1 x) = _
      rw [if_neg (Ne.symm hd.1)]; exact m.tx
    · intro y hy
      have hy : (if y = h then some (allOf tc.2 (ps.map (tv tc.1))).1 else tc.1 y).isSome := hy
      split at hy
      · rename_i e; exact .inr (e ▸ hd.2)
      · exact m.dom y hy
    · intro h1 q1 q2 ρ
      by_cases e : h1 = h
      · subst e
        show lv (allOf tc.2 (ps.map (tv tc.1))).2 ρ (tvN _ h1) = _
        rw [th, ok.sem, vl_and w0 hk hne, List.all_map]
        refine all_congr' fun p hp' => ?_
        obtain ⟨k1, k2, k3, k4, _⟩ := hkid p hp'
        have q := m.sem p.natAbs k1 k2 ρ
        have hz := (m.s.a p.natAbs (by omega) (by omega)).1
        show lv tc.2 ρ (tv tc.1 p) = lv c0 _ p
        unfold tv
        by_cases e : 0 < p
        · rw [if_pos e, q]; unfold lv; rw [if_pos e]
        · rw [if_neg e, lv_neg (by omega), q]; unfold lv; rw [if_neg e]
      · have hnm : h1 ∉ h :: L := by simp [e, q2]
        have hl1 := q1.le w0
        have h12 := q1.two w0 hg2
        show lv (allOf tc.2 (ps.map (tv tc.1))).2 ρ (tvN _ h1) = _
        rw [tn h1 e, lv_ext m.s.w ok.w ok.x ρ (lval h1 (by omega) (by omega))]
        exact m.sem h1 q1 hnm ρ
    · intro h1 q1 q2 y hy q
      by_cases e : h1 = h
      · subst e
        have q : Rch (allOf tc.2 (ps.map (tv tc.1))).2 (tvN _ h1).natAbs y := q
        rw [th] at q
        obtain ⟨l, hl, q⟩ := ok.res.inp ok.w hy q
        obtain ⟨p, hp', rfl⟩ := List.mem_map.mp hl
        obtain ⟨k1, k2, k3, k4, k5⟩ := hkid p hp'
        have r := m.inp p.natAbs k1 k2 y (isI y hy) (litrch p hp' y q)
        exact ⟨r.1, k5.trans r.2⟩
      · have hnm : h1 ∉ h :: L := by simp [e, q2]
        have hl1 := q1.le w0
        have h12 := q1.two w0 hg2
        have q : Rch (allOf tc.2 (ps.map (tv tc.1))).2 (tvN _ h1).natAbs y := q
        rw [tn h1 e, Rch.ext m.s.w ok.x (lval h1 (by omega) (by omega))] at q
        exact m.inp h1 q1 hnm y (isI y hy) q
    · intro h1 q1 q2 y q
      by_cases e : h1 = h
      · subst e
        have q : Rch (allOf tc.2 (ps.map (tv tc.1))).2 (tvN _ h1).natAbs y := q
        rw [th] at q
        rcases ok.res.rch ok.w q with e | ⟨l, hl, q⟩
        · exact ⟨h1, .refl _, by rw [e]; show _ = (tvN _ h1).natAbs; rw [th]⟩
        · obtain ⟨p, hp', rfl⟩ := List.mem_map.mp hl
          obtain ⟨k1, k2, k3, k4, k5⟩ := hkid p hp'
          obtain ⟨h', r1, r2⟩ := m.old p.natAbs k1 k2 y (litrch p hp' y q)
          have := r1.le w0
          exact ⟨h', k5.trans r1, by rw [r2]; show _ = (tvN _ h').natAbs; rw [tn h' (by omega)]⟩
      · have hnm : h1 ∉ h :: L := by simp [e, q2]
        have hl1 := q1.le w0
        have h12 := q1.two w0 hg2
        have q : Rch (allOf tc.2 (ps.map (tv tc.1))).2 (tvN _ h1).natAbs y := q
        rw [tn h1 e, Rch.ext m.s.w ok.x (lval h1 (by omega) (by omega))] at q
        obtain ⟨h', r1, r2⟩ := m.old h1 q1 hnm y q
        have := r1.le w0
        have := m.ss h1 q1 hnm h (.head _)
        exact ⟨h', r1, by rw [r2]; show _ = (tvN _ h').natAbs; rw [tn h' (by omega)]⟩
  · have hst : stL c0 x tc h = tc := by unfold stL; rw [if_neg hd]
    rw [hst] at s1 ⊢
    have keyN : h ≠ x → ¬ Rch c0 h x → ∀ y, Rch c0 h y → tvN tc.1 y = (y : Int) := fun e1 e2 y q => by
      unfold tvN
      cases ht : tc.1 y with
      | none => rfl
      | some v =>
        rcases m.dom y (by rw [ht]; rfl) with rfl | q'
        · exact absurd q e2
        · exact absurd (q.trans q') e2
    refine ⟨s1, m.tx, m.dom, ?_, ?_, ?_, ss'⟩
    · intro h1 q1 q2 ρ
      by_cases e : h1 = h
      · subst e
        by_cases ex : h1 = x
        · subst ex
          have : tvN tc.1 h1 = if b then 1 else -1 := by unfold tvN; rw [m.tx]; rfl
          rw [this, vl_in hx]
          unfold updE; rw [if_pos rfl]
          cases b
          · show lv tc.2 ρ (-1) = false
            rw [lv_neg (by decide), lv_one m.s.w]; rfl
          · exact lv_one m.s.w
        · have e2 : ¬ Rch c0 h1 x := fun q => hd ⟨ex, q⟩
          rw [keyN ex e2 h1 (.refl _), vl_indep w0 _ _ (Nat.lt_succ_self _) e2]
          unfold lv
          rw [if_pos (by omega)]
          exact vl_ext w0 m.s.w m.s.x ρ _ _ (Nat.lt_succ_self _) hlt
      · exact m.sem h1 q1 (by simp [e, q2]) ρ
    · intro h1 q1 q2 y hy q
      by_cases e : h1 = h
      · subst e
        by_cases ex : h1 = x
        · subst ex
          have e1 : (tvN tc.1 h1).natAbs = 1 := by
            have : tvN tc.1 h1 = if b then 1 else -1 := by unfold tvN; rw [m.tx]; rfl
            rw [this]; cases b <;> rfl
          rw [e1] at q
          have := rch_one m.s.w q
          have := (m.s.w.in_nil hy).2
          omega
        · have e2 : ¬ Rch c0 h1 x := fun q => hd ⟨ex, q⟩
          rw [keyN ex e2 h1 (.refl _)] at q
          have q : Rch tc.2 h1 y := q
          rw [Rch.ext w0 m.s.x hlt] at q
          exact ⟨fun e => e2 (e ▸ q), q⟩
      · exact m.inp h1 q1 (by simp [e, q2]) y hy q
    · intro h1 q1 q2 y q
      by_cases e : h1 = h
      · subst e
        by_cases ex : h1 = x
        · subst ex
          have e1 : (tvN tc.1 h1).natAbs = 1 := by
            have : tvN tc.1 h1 = if b then 1 else -1 := by unfold tvN; rw [m.tx]; rfl
            rw [this]; cases b <;> rfl
          rw [e1] at q
          have := rch_one m.s.w q
          exact ⟨h1, .refl _, by omega⟩
        · have e2 : ¬ Rch c0 h1 x := fun q => hd ⟨ex, q⟩
          rw [keyN ex e2 h1 (.refl _)] at q
          have q : Rch tc.2 h1 y := q
          rw [Rch.ext w0 m.s.x hlt] at q
          exact ⟨y, q, by rw [keyN ex e2 y q]; rfl⟩
      · exact m.old h1 q1 (by simp [e, q2]) y q
theorem MI.fold (w0 : WfC c0) {x : Nat} {b : Bool} {g : Nat} (hx : isIn c0 x) (hg : g < c0.gs.length) (hg2 : 2 ≤ g) : ∀ (L : List Nat) (tc : (Nat → Option Int) × Ci), (∀ h ∈ L, Rch c0 g h) → (nI L).Pairwise (· < ·) → MI c0 x b g L tc → MI c0 x b g [] (L.foldl (stL c0 x) tc)
  | [], _, _, _, m => m
  | h :: L, tc, hL, hp, m => by
    have hpw : (∀ b ∈ nI L, (h : Int) < b) ∧ (nI L).Pairwise (· < ·) := List.pairwise_cons.mp hp
    exact MI.fold w0 hx hg hg2 L _ (fun a ha => hL a (.tail _ ha)) hpw.2 (m.step w0 hx hg hg2 (hL h (.head _)) fun h2 q => by have := hpw.1 h2 (mem_nI.mpr q); omega)

/-- what settled's gate is -/
structure StOk (c : Ci) (g x : Nat) (b : Bool) (v : Int) (c' : Ci) : Prop where
  w : WfC c'
  ext : Ext c c'
  lit : litC c' v
  inp : ∀ (i : Nat) (ps : List Int), c'.gs[i]? = some (("input" : Str), ps) → c.gs[i]? = some (("input" : Str), ps)
  sem : ∀ ρ, lv c' ρ v = vl c (updE ρ x b) g
  und : ∀ y, isIn c' y → Rch c' v.natAbs y → y ≠ x ∧ Rch c g y
  size : (undL c' v.natAbs).length ≤ (undL c g).length
  len : c'.gs.length ≤ c.gs.length + (undL c g).length
  kln : c'.kn.length ≤ c.kn.length + (undL c g).length
theorem stt_ok (w : WfC c) {g x : Nat} {b : Bool} (hx : isIn c x) (hg : g < c.gs.length) (hg2 : 2 ≤ g) : StOk c g x b (tvN (stt c g x b).1 g) (stt c g x b).2 := by
  have hL : ∀ h ∈ undL c g, Rch c g h := fun h q => (mem_undL w).mp q
  have m0 : MI c x b g (undL c g) (t0 x b, c) := by
    refine ⟨.start w, by simp [t0], fun y hy => ?_, ?_, ?_, ?_, ?_⟩
    · unfold t0 at hy
      simp only at hy
      split at hy
      · rename_i e; exact .inl e
      · cases hy
    all_goals exact fun h q1 q2 => absurd ((mem_undL w).mpr q1) q2
  have m := MI.fold w hx hg hg2 (undL c g) _ hL (undL_lt c g) m0
  obtain ⟨s, xx, l1, l2⟩ := SI.fold w (x := x) (undL c g) (t0 x b, c) (fun h q => by have := (hL h q).le w; omega) (.start w)
  refine ⟨s.w, s.x, s.a g (by omega) hg, s.inp, m.sem g (.refl g) (by simp), m.inp g (.refl g) (by simp), ?_, l1, l2⟩
  have key : ∀ y ∈ undL (stt c g x b).2 (tvN (stt c g x b).1 g).natAbs, y ∈ (undL c g).map fun h => (tvN (stt c g x b).1 h).natAbs := fun y hy => by
    obtain ⟨h', r1, r2⟩ := m.old g (.refl g) (by simp) y ((mem_undL s.w).mp hy)
    exact List.mem_map.mpr ⟨h', (mem_undL w).mpr r1, r2.symm⟩
  have := nodup_sub (undL_nodup _ _) key
  simpa using this
/-- asked again -/
theorem stt_again (w : WfC c) {g x : Nat} {b : Bool} (hg : g < c.gs.length) {c'' : Ci} (xx : Ext (stt c g x b).2 c'') : stt c'' g x b = ((stt c g x b).1, c'') := by
  have hL : ∀ h ∈ undL c g, h < c.gs.length := fun h q => by have := ((mem_undL w).mp q).le w; omega
  have key : ∀ (L : List Nat) (tc : (Nat → Option Int) × Ci), (∀ h ∈ L, h < c.gs.length) → SI c tc → Ext (L.foldl (stL c x) tc).2 c'' → L.foldl (stL c'' x) (tc.1, c'') = ((L.foldl (stL c x) tc).1, c'') := by
    intro L
    induction L with
    | nil => intro tc _ _ _; rfl
    | cons h L ih =>
      intro tc hL s q
      obtain ⟨s1, x1, _, _⟩ := s.step w (x := x) (hL h (.head _))
      obtain ⟨_, x2, _, _⟩ := SI.fold w (x := x) L _ (fun a ha => hL a (.tail _ ha)) s1
      have q1 : Ext (stL c x tc h).2 c'' := x2.trans q
      have xc : Ext c c'' := s1.x.trans q1
      have hh := hL h (.head _)
      have e : stL c'' x (tc.1, c'') h = ((stL c x tc h).1, c'') := by
        have er := Rch.ext w xc (a := h) (b := x) hh
        have ek : kps c'' h = kps c h := by
          obtain ⟨k, ps, hk, _⟩ := wf_kind w hh
          rw [kps_of hk, kps_of (xc.pre _ _ hk)]
        by_cases hd : h ≠ x ∧ Rch c h x
        · have hd' : h ≠ x ∧ Rch c'' h x := ⟨hd.1, er.mpr hd.2⟩
          have e1 : stL c x tc h = (fun k => if k = h then some (allOf tc.2 ((kps c h).map (tv tc.1))).1 else tc.1 k, (allOf tc.2 ((kps c h).map (tv tc.1))).2) := by
            unfold stL; rw [if_pos hd]
          rw [e1] at q1 ⊢
          unfold stL
          rw [if_pos hd', ek]
          simp only
          rw [allOf_again q1]
        · have hd' : ¬ (h ≠ x ∧ Rch c'' h x) := fun q => hd ⟨q.1, er.mp q.2⟩
          unfold stL
          rw [if_neg hd, if_neg hd']
      rw [List.foldl_cons, List.foldl_cons, e]
      exact ih _ (fun a ha => hL a (.tail _ ha)) s1 q
  obtain ⟨s, x1, _, _⟩ := SI.fold w (x := x) (undL c g) (t0 x b, c) hL (.start w)
  have xc : Ext c c'' := x1.trans xx
  unfold stt
  rw [undL_ext w xc hg]
  exact key (undL c g) (t0 x b, c) hL (.start w) xx
end
section
open PySem PySem.W
/-! columns of bits -/
noncomputable def col (f : Nat → Bool) : Nat → Nat
  | 0 => 0
  | n + 1 => col f n + if f n then 2 ^ n else 0
theorem col_lt (f : Nat → Bool) : ∀ n, col f n < 2 ^ n
  | 0 => by show 0 < 1; decide
  | n + 1 => by
    have := col_lt f n
    unfold col
    rw [Nat.pow_succ]
    split <;> omega
theorem col_bit (f : Nat → Bool) : ∀ n i, (col f n).testBit i = (decide (i < n) && f i)
  | 0, i => by simp [col]
  | n + 1, i => by
    have h := col_lt f n
    unfold col
    by_cases hf : f n
    · rw [if_pos hf, Nat.add_comm]
      rcases Nat.lt_trichotomy i n with hi | hi | hi
      · rw [Nat.testBit_two_pow_add_gt hi, col_bit f n i, decide_eq_true hi, decide_eq_true (by omega)]
      · subst hi
        rw [Nat.testBit_two_pow_add_eq, col_bit f i i]; simp [hf]
      · rw [Nat.testBit_lt_two_pow]
        · simp; omega
        · have : 2 ^ (n + 1) ≤ 2 ^ i := Nat.pow_le_pow_right (by decide) hi
          rw [Nat.pow_succ] at this
          omega
    · rw [if_neg hf, Nat.add_zero, col_bit f n i]
      by_cases hi : i < n
      · rw [decide_eq_true hi, decide_eq_true (by omega)]
      · rw [decide_eq_false hi]
        by_cases e : i = n
        · subst e; simp [hf]
        · rw [decide_eq_false (by omega)]
theorem col_congr {f g : Nat → Bool} : ∀ {n}, (∀ i, i < n → f i = g i) → col f n = col g n
  | 0, _ => rfl
  | n + 1, h => by
    unfold col
    rw [col_congr fun i hi => h i (by omega), h n (by omega)]
theorem col_full : ∀ n, col (fun _ => true) n + 1 = 2 ^ n
  | 0 => rfl
  | n + 1 => by
    have := col_full n
    unfold col
    rw [Nat.pow_succ, if_pos rfl]
    omega
theorem col_not (f : Nat → Bool) : ∀ n, col f n + col (fun i => !f i) n + 1 = 2 ^ n
  | 0 => rfl
  | n + 1 => by
    have := col_not f n
    unfold col
    rw [Nat.pow_succ]
    cases f n <;> simp <;> omega
theorem col_and (f g : Nat → Bool) (n : Nat) : col f n &&& col g n = col (fun i => f i && g i) n := by
  refine Nat.eq_of_testBit_eq fun i => ?_
  rw [Nat.testBit_and, col_bit, col_bit, col_bit]
  cases decide (i < n) <;> simp
theorem col_div (f : Nat → Bool) (n r : Nat) (h : r < n) : col f n / 2 ^ r % 2 = if f r then 1 else 0 := by
  have := col_bit f n r
  rw [Nat.testBit_eq_decide_div_mod_eq, decide_eq_true h, Bool.true_and] at this
  cases hf : f r
  · rw [hf, decide_eq_false_iff_not] at this
    simp; omega
  · rw [hf, decide_eq_true_eq] at this
    simp [this]
theorem bitAnd_nat (a b : Nat) : Builtin.bitAnd (a : Int) (b : Int) = ((a &&& b : Nat) : Int) := by
  rfl
theorem pow_nat (k : Nat) (h : k ≤ 1000) : binI .pow 2 (k : Int) = some ((2 ^ k : Nat) : Int) := by
  show (if (2 : Int) = 2 then (if 0 ≤ (k : Int) ∧ (k : Int) ≤ 1000 then some ((2 : Int) ^ (k : Int).toNat) else none) else none) = _
  rw [if_pos rfl, if_pos (by omega), Int.toNat_natCast, Int.natCast_pow]; rfl
theorem fdiv_nat (a k : Nat) (h : k < 30) : binI .fdiv (a : Int) ((2 ^ k : Nat) : Int) = some ((a / 2 ^ k : Nat) : Int) := by
  have h1 : 0 < 2 ^ k := Nat.two_pow_pos k
  have h2 : 2 ^ k < 2 ^ 30 := Nat.pow_lt_pow_right (by decide) h
  show (if ((2 ^ k : Nat) : Int) ≠ 0 ∧ ((2 ^ k : Nat) : Int).natAbs < 1073741824 then some ((a : Int).fdiv ((2 ^ k : Nat) : Int)) else none) = _
  rw [if_pos ⟨by omega, by rw [Int.natAbs_natCast]; omega⟩, Int.fdiv_eq_ediv_of_nonneg _ (by omega), Int.natCast_ediv]
theorem fmod_two (a : Nat) : binI .mod (a : Int) 2 = some ((a % 2 : Nat) : Int) := by
  show (if (2 : Int) ≠ 0 then some ((a : Int).fmod 2) else none) = _
  rw [if_pos (by decide), Int.fmod_eq_emod_of_nonneg _ (by decide), Int.natCast_emod]; rfl

noncomputable def inpL (m : Nat) : List Nat := (List.range m).map (· + 2)
theorem idx_ins {m h : Nat} (hm : m = 3 ∨ m = 4) (h2 : 2 ≤ h) (hl : h < m + 2) : (nI (inpL m)).findIdx? (· == (h : Int)) = some (h - 2) := by
  rcases hm with rfl | rfl
  · have : h = 2 ∨ h = 3 ∨ h = 4 := by omega
    rcases this with rfl | rfl | rfl <;> rfl
  · have : h = 2 ∨ h = 3 ∨ h = 4 ∨ h = 5 := by omega
    rcases this with rfl | rfl | rfl | rfl <;> rfl
noncomputable def envR (row : Nat) : Nat → Bool := fun i => row.testBit (i - 2)
/-- a gate's column, and a literal's -/
noncomputable def colV (c : Ci) (R h : Nat) : Nat := col (fun row => vl c (envR row) h) R
noncomputable def colL (c : Ci) (R : Nat) (p : Int) : Nat := col (fun row => lv c (envR row) p) R

/-- steps of a comprehension with a test, without effect -/
theorem steps_if {stp : PyData → List O → List PyData → List O → Prop} {G : List O} {g : α → PyData} {h : α → PyData} {q : α → Bool} : ∀ (xs : List α), (∀ x ∈ xs, stp (g x) G (if q x then [h x] else []) G) → Steps stp (xs.map g) G ((xs.filter q).map h) G
  | [], _ => .nil
  | x :: r, e => by
    have h1 := e x (.head _)
    have h2 := steps_if r fun y hy => e y (.tail _ hy)
    rw [List.filter_cons]
    split
    · rename_i hq
      rw [if_pos hq] at h1
      exact .cons h1 h2
    · rename_i hq
      rw [if_neg hq] at h1
      exact .cons h1 h2
theorem sum_col (q : Nat → Bool) : ∀ n, (((List.range n).filter q).map fun r => ((2 ^ r : Nat) : Int)).sum = ((col q n : Nat) : Int)
  | 0 => rfl
  | n + 1 => by
    have := sum_col q n
    rw [List.range_succ, List.filter_append, List.map_append, List.sum_append, this]
    show _ = (((col q n + if q n then 2 ^ n else 0 : Nat)) : Int)
    cases h : q n <;> simp [h]

end
section
open PySem PySem.W
variable {w : World} {base : Heap} {n : Nat} {c : Ci} {r : List O} {G : List O} {f : O}
theorem full_sub (q : Nat → Bool) (R : Nat) : ((col (fun _ => true) R : Nat) : Int) - ((col q R : Nat) : Int) = ((col (fun i => !q i) R : Nat) : Int) := by
  have := col_full R
  have := col_not q R
  omega
theorem colL_pos (c : Ci) (R : Nat) {p : Int} (h : 0 < p) : colL c R p = colV c R p.natAbs := by
  unfold colL colV
  refine col_congr fun i _ => ?_
  unfold lv; rw [if_pos h]
theorem colL_neg (c : Ci) (R : Nat) {p : Int} (h : ¬ 0 < p) : ((colL c R p : Nat) : Int) = ((col (fun _ => true) R : Nat) : Int) - ((colV c R p.natAbs : Nat) : Int) := by
  unfold colV
  rw [full_sub]
  unfold colL
  rw [col_congr fun i _ => by unfold lv; rw [if_neg h]]
noncomputable def fb261 : List Stmt := forBody (bd261.getD 2 (.Pass default))
noncomputable def fi261 : List Stmt := forBody ((ifElse (fb261.getD 0 (.Pass default))).getD 1 (.Pass default))
noncomputable abbrev fuI (R : Nat) : Int := ((col (fun _ => true) R : Nat) : Int)
theorem bit_div (row k : Nat) : row.testBit k = decide (row / 2 ^ k % 2 = 1) := Nat.testBit_eq_decide_div_mod_eq
theorem col_in {B : Heap} {A0 A1 A2 A3 A7 : Option V} {R h : Nat} : ∀ (ps : List Int) (kvs : List (Int × PyData)) (a : Nat → Bool) (y : Option V), dget kvs (h : Int) = some (.int ((col a R : Nat) : Int)) →
      (∀ p ∈ ps, p.natAbs ≠ h ∧ dget kvs (p.natAbs : Int) = some (.int ((colV c R p.natAbs : Nat) : Int))) → kvs.length + ps.length < 90000 →
      ∃ kvs' y', ForR (cx2 w base) n (scOf fd261 ls261 B) (.one 8) fi261 (iD ps) [A0, A1, A2, A3, some (.d (.int (fuI R))), some (.od kvs), some (.d (.int h)), A7, y] G .next
          [A0, A1, A2, A3, some (.d (.int (fuI R))), some (.od kvs'), some (.d (.int h)), A7, y'] G ∧
        dget kvs' (h : Int) = some (.int ((col (fun row => a row && ps.all (lv c (envR row))) R : Nat) : Int)) ∧ (∀ j : Nat, j ≠ h → dget kvs' (j : Int) = dget kvs (j : Int)) ∧ kvs'.length ≤ kvs.length + ps.length
  | [], kvs, a, y, e, _, _ => ⟨kvs, y, .nil, by simpa using e, fun _ _ => rfl, by simp⟩
  | p :: ps, kvs, a, y, e, hp, hl => by
    have h1 := hp p (.head _)
    simp only [List.length_cons] at hl
    have hlen := dput_len (kvs := kvs) (k := (h : Int)) (x := .int ((col (fun row => a row && lv c (envR row) p) R : Nat) : Int))
    obtain ⟨kvs', y', e2, d1, d2, d3⟩ := col_in (B := B) (A0 := A0) (A1 := A1) (A2 := A2) (A3 := A3) (A7 := A7) (R := R) (h := h) ps (dput kvs (h : Int) (.int ((col (fun row => a row && lv c (envR row) p) R : Nat) : Int))) (fun row => a row && lv c (envR row) p) (some (.d (.int p)))
      (by rw [dget_dput, if_pos rfl]) (fun q hq => ⟨(hp q (.tail _ hq)).1, by rw [dget_dput, if_neg (by have := (hp q (.tail _ hq)).1; omega)]; exact (hp q (.tail _ hq)).2⟩) (by omega)
    refine ⟨kvs', y', .turn rfl ?_ (.inl rfl) e2, ?_, ?_, ?_⟩
    · have es : szOk kvs.length = true := szOk_lt (by omega)
      have hb : binI .band ((col a R : Nat) : Int) ((colL c R p : Nat) : Int) = some ((col (fun row => a row && lv c (envR row) p) R : Nat) : Int) := by
        show some (Builtin.bitAnd _ _) = _
        rw [bitAnd_nat]
        unfold colL
        rw [col_and]
      have i1 : idxG G (.int (h : Int)) (.od kvs) = some (.int ((col a R : Nat) : Int)) := e
      have i2 : idxG G (.int (p.natAbs : Int)) (.od kvs) = some (.int ((colV c R p.natAbs : Nat) : Int)) := h1.2
      by_cases hpp : 0 < p
      · rw [colL_pos c R hpp] at hb
        have hz : decide (0 < p) = true := decide_eq_true hpp
        refine' TSs_cons (s_setV ?_ ?_ (q_bin ?_ ?_ (q_ite_t ?_ ?_) hb) ?_ ?_ ?_ es rfl ?_) TSs_nil
        repeat' (first | (with_reducible exact hz) | (with_reducible exact i1) | (with_reducible exact i2) | k_upd)
      · have hs : binI .sub (fuI R) ((colV c R p.natAbs : Nat) : Int) = some ((colL c R p : Nat) : Int) := by
          show some (_ - _) = _
          rw [colL_neg c R hpp]
        have hz : decide (0 < p) = false := decide_eq_false hpp
        refine' TSs_cons (s_setV ?_ ?_ (q_bin ?_ ?_ (q_ite_f ?_ (q_bin ?_ ?_ ?_ hs)) hb) ?_ ?_ ?_ es rfl ?_) TSs_nil
        repeat' (first | (with_reducible exact hz) | (with_reducible exact i1) | (with_reducible exact i2) | k_upd)
    · rw [d1]
      simp only [List.all_cons, Bool.and_assoc]
    · intro j hj
      rw [d2 j hj, dget_dput, if_neg (by omega)]
    · simp only [List.length_cons]; omega
noncomputable abbrev insV (m : Nat) : V := .d (.list (iD (nI (inpL m))))
theorem col_step (wc : WfC c) (hl : c.gs.length < 30000) {m : Nat} (hm : m = 3 ∨ m = 4) (hin : ∀ h, isIn c h → h < m + 2) {B : Heap} {A2 A7 A8 : Option V} {kvs : List (Int × PyData)} {h : Nat} (hh : h < c.gs.length)
    (hk : ∀ p ∈ kids c h, dget kvs (p : Int) = some (.int ((colV c (2 ^ m) p : Nat) : Int))) (hv : kvs.length < 80000) :
    ∃ kvs' y7 y8, TSs (cx2 w base) (n + 1) (scOf fd261 ls261 B) fb261 [some cV, some (insV m), A2, some (.d (.int ((2 ^ m : Nat) : Int))), some (.d (.int (fuI (2 ^ m)))), some (.od kvs), some (.d (.int h)), A7, A8] (mkG f c r) .next
        [some cV, some (insV m), A2, some (.d (.int ((2 ^ m : Nat) : Int))), some (.d (.int (fuI (2 ^ m)))), some (.od kvs'), some (.d (.int h)), y7, y8] (mkG f c r) ∧
      dget kvs' (h : Int) = some (.int ((colV c (2 ^ m) h : Nat) : Int)) ∧ (∀ j : Nat, j ≠ h → dget kvs' (j : Int) = dget kvs (j : Int)) ∧ kvs'.length ≤ kvs.length + 4 := by
  obtain ⟨k, ps, hg, hc⟩ := wf_kind wc hh
  have k1 := kind_c (w := w) (base := base) (n := n) (f := f) (r := r) (g := (h : Int)) (show c.gs[(h : Int).natAbs]? = _ from hg) (by omega)
  have k2 := parts_c (w := w) (base := base) (n := n) (f := f) (r := r) (g := (h : Int)) (show c.gs[(h : Int).natAbs]? = _ from hg) (by omega)
  have es : szOk kvs.length = true := szOk_lt (by omega)
  have hlen := fun x => dput_len (kvs := kvs) (k := (h : Int)) (x := x)
  by_cases hki : k = ("input" : Str)
  · subst hki
    obtain ⟨i1, i2⟩ := wc.in_nil hg
    have i3 := hin h i1
    have ex := idx_ins hm i2 i3
    have hR : 2 ^ m ≤ 16 := by rcases hm with rfl | rfl <;> decide
    have el : szOk (iD (nI (inpL m))).length = true := szOk_lt (by rw [iD_len, nI_len]; simp [inpL]; omega)
    have ea : asInts (iD (nI (inpL m))) = some (nI (inpL m)) := asInts_iD _
    have e9 : itemsV (.rng 0 ((2 ^ m : Nat) : Int)) = some ((List.range (2 ^ m)).map fun i => .int (i : Nat)) := itemsV_rng (by omega)
    have hsum := sum_col (fun row => row.testBit (h - 2)) (2 ^ m)
    have hcv : col (fun row => row.testBit (h - 2)) (2 ^ m) = colV c (2 ^ m) h := by
      unfold colV
      refine col_congr fun row _ => ?_
      rw [vl_in hg]; rfl
    rw [hcv] at hsum
    have hsd : asInts (((List.range (2 ^ m)).filter fun row => row.testBit (h - 2)).map fun i => PyData.int ((2 ^ i : Nat) : Int)) = some (((List.range (2 ^ m)).filter fun row => row.testBit (h - 2)).map fun r => ((2 ^ r : Nat) : Int)) := by
      have := asInts_iD (((List.range (2 ^ m)).filter fun row => row.testBit (h - 2)).map fun i => ((2 ^ i : Nat) : Int))
      unfold iD at this
      rw [List.map_map] at this
      exact this
    have hfl : szOk (((List.range (2 ^ m)).filter fun row => row.testBit (h - 2)).map fun i => PyData.int ((2 ^ i : Nat) : Int)).length = true := szOk_lt (by
      rw [List.length_map]
      have := List.length_filter_le (fun row => row.testBit (h - 2)) (List.range (2 ^ m))
      rw [List.length_range] at this
      omega)
    have hz : dput kvs (h : Int) (.int (((List.range (2 ^ m)).filter fun row => row.testBit (h - 2)).map fun r => ((2 ^ r : Nat) : Int)).sum) = dput kvs (h : Int) (.int ((colV c (2 ^ m) h : Nat) : Int)) := by rw [hsum]
    refine ⟨dput kvs (h : Int) (.int ((colV c (2 ^ m) h : Nat) : Int)), some (.d (.int ((h - 2 : Nat) : Int))), A8, ?_, by rw [dget_dput, if_pos rfl], fun j hj => by rw [dget_dput, if_neg (by omega)], by have := hlen (.int ((colV c (2 ^ m) h : Nat) : Int)); omega⟩
    refine' TSs_cons (s_if_t ?_ (TSs_cons (F₁ := [some cV, some (insV m), A2, some (.d (.int ((2 ^ m : Nat) : Int))), some (.d (.int (fuI (2 ^ m)))), some (.od kvs), some (.d (.int h)), some (.d (.int ((h - 2 : Nat) : Int))), A8]) (s_asg ?_ ?_ ?_ (T_index ?_ ?_ ?_ ?_ ?_ el ea ex) ?_) (TSs_cons (s_setV ?_ ?_ (T_sum (bq ?_ ?_) ?_ (q_comp (core2 (own := 1) ?_ ?_ e9 ?_ (fun B => rfl) (fun B => .inl rfl) ?_ ?st hfl) ?_ ?_) hsd) ?_ ?_ ?_ es hz ?_) TSs_nil))) TSs_nil
    repeat' (first | (with_reducible exact k1) | (with_reducible exact eq_ii) | k_upd)
    case st =>
      refine steps_if (q := fun row : Nat => row.testBit (h - 2)) _ fun row hrow => ?_
      have hr := List.mem_range.mp hrow
      have p1 := pow_nat (h - 2) (by omega)
      have p2 := fdiv_nat row (h - 2) (by omega)
      have p3 := fmod_two (row / 2 ^ (h - 2))
      have p4 := pow_nat row (by omega)
      have p5 := eqD_int ((row / 2 ^ (h - 2) % 2 : Nat) : Int) 1
      have p6 : decide (((row / 2 ^ (h - 2) % 2 : Nat) : Int) = 1) = row.testBit (h - 2) := by
        rw [bit_div, Bool.eq_iff_iff, decide_eq_true_eq, decide_eq_true_eq]; omega
      rw [p6] at p5
      cases hb : row.testBit (h - 2)
      · rw [if_neg (by decide)]
        rw [hb] at p5
        refine ⟨[some cV, some (insV m), A2.map ro, some (.d (.int ((2 ^ m : Nat) : Int))), some (.d (.int (fuI (2 ^ m)))), some (.rd kvs), some (.d (.int h)), some (.d (.int ((h - 2 : Nat) : Int))), A8.map ro, some (.d (.int (row : Int)))], false, _, rfl, fun B' => ?_, .f rfl rfl rfl⟩
        repeat' (first | (with_reducible exact p1) | (with_reducible exact p2) | (with_reducible exact p3) | (with_reducible exact p5) | k_upd)
      · rw [if_pos rfl]
        rw [hb] at p5
        refine ⟨[some cV, some (insV m), A2.map ro, some (.d (.int ((2 ^ m : Nat) : Int))), some (.d (.int (fuI (2 ^ m)))), some (.rd kvs), some (.d (.int h)), some (.d (.int ((h - 2 : Nat) : Int))), A8.map ro, some (.d (.int (row : Int)))], true, mkG f c r, rfl, fun B' => ?_, .t _ rfl (fun B' => ?_) rfl⟩
        repeat' (first | (with_reducible exact p1) | (with_reducible exact p2) | (with_reducible exact p3) | (with_reducible exact p5) | (with_reducible exact p4) | k_upd)
  · have hps : ps.length ≤ 3 := by have := kids_len wc (g := h); rw [kids_of hg, List.length_map] at this; exact this
    have hki' : eqD (.str k) (.str ("input" : Str)) = some false := by
      rcases hc with rfl | ⟨rfl | rfl | rfl, _⟩
      · exact eq_ai
      · exact absurd rfl hki
      · exact eq_ti
      · exact eq_ei
    have hl1 := hlen (.int (fuI (2 ^ m)))
    obtain ⟨kvs', y', e, d1, d2, d3⟩ := col_in (w := w) (base := base) (n := n + 1) (B := B) (c := c) (G := mkG f c r) (A0 := some cV) (A1 := some (insV m)) (A2 := A2) (A3 := some (.d (.int ((2 ^ m : Nat) : Int)))) (A7 := A7) (R := 2 ^ m) (h := h) ps
      (dput kvs (h : Int) (.int (fuI (2 ^ m)))) (fun _ => true) A8 (by rw [dget_dput, if_pos rfl]) (fun p hp => by
        have q := kid_lt wc hg hp
        refine ⟨by omega, ?_⟩
        rw [dget_dput, if_neg (by omega)]
        exact hk _ ((kids_mem hg).mpr ⟨p, hp, rfl⟩)) (by omega)
    refine ⟨kvs', A7, y', ?_, ?_, fun j hj => by rw [d2 j hj, dget_dput, if_neg (by omega)], by omega⟩
    · have hv' : itemsV (.d (.tuple (iD ps))) = some (iD ps) := rfl
      refine' TSs_cons (s_if_f ?_ (TSs_cons (F₁ := [some cV, some (insV m), A2, some (.d (.int ((2 ^ m : Nat) : Int))), some (.d (.int (fuI (2 ^ m)))), some (.od (dput kvs (h : Int) (.int (fuI (2 ^ m))))), some (.d (.int h)), A7, A8]) (s_setV ?_ ?_ ?_ ?_ ?_ ?_ es rfl ?_) (TSs_cons (s_for ?_ ?_ ?_ hv' e ?_) TSs_nil))) TSs_nil
      repeat' (first | (with_reducible exact k1) | (with_reducible exact hki') | (with_reducible exact k2) | k_upd)
    · rw [d1]
      have : col (fun row => true && ps.all (lv c (envR row))) (2 ^ m) = colV c (2 ^ m) h := by
        unfold colV
        refine col_congr fun row _ => ?_
        rw [vl_and wc hg hki, Bool.true_and]
      rw [this]
theorem col_loop (wc : WfC c) (hl : c.gs.length < 30000) {m g : Nat} (hm : m = 3 ∨ m = 4) (hin : ∀ h, isIn c h → h < m + 2) (hg : g < c.gs.length) {B : Heap} {A2 : Option V} :
    ∀ (L : List Nat) (kvs : List (Int × PyData)) (y A7 A8 : Option V), (∀ h ∈ L, Rch c g h) → (nI L).Pairwise (· < ·) → (∀ h, Rch c g h → h ∉ L → dget kvs (h : Int) = some (.int ((colV c (2 ^ m) h : Nat) : Int))) → kvs.length + 4 * L.length < 70000 →
      ∃ kvs' y' y7 y8, ForR (cx2 w base) (n + 1) (scOf fd261 ls261 B) (.one 6) fb261 (iD (nI L)) [some cV, some (insV m), A2, some (.d (.int ((2 ^ m : Nat) : Int))), some (.d (.int (fuI (2 ^ m)))), some (.od kvs), y, A7, A8] (mkG f c r) .next
        [some cV, some (insV m), A2, some (.d (.int ((2 ^ m : Nat) : Int))), some (.d (.int (fuI (2 ^ m)))), some (.od kvs'), y', y7, y8] (mkG f c r) ∧
      ∀ h, Rch c g h → dget kvs' (h : Int) = some (.int ((colV c (2 ^ m) h : Nat) : Int))
  | [], kvs, y, A7, A8, _, _, hd, _ => ⟨kvs, y, A7, A8, .nil, fun h q => hd h q (by simp)⟩
  | h :: L, kvs, y, A7, A8, hL, hp, hd, hlen => by
    have hpw : (∀ b ∈ nI L, (h : Int) < b) ∧ (nI L).Pairwise (· < ·) := List.pairwise_cons.mp hp
    have hr := hL h (.head _)
    have hle := hr.le wc
    simp only [List.length_cons] at hlen
    obtain ⟨kvs1, y7, y8, e, d1, d2, d3⟩ := col_step (w := w) (base := base) (n := n) (f := f) (r := r) (B := B) (A2 := A2) (A7 := A7) (A8 := A8) (kvs := kvs) wc hl hm hin (show h < c.gs.length by omega) (fun p hp' => by
      have q := kids_lt wc hp'
      refine hd p (hr.trans (.step hp' (.refl p))) ?_
      rw [List.mem_cons]
      rintro (rfl | m')
      · omega
      · have := hpw.1 p (mem_nI.mpr m'); omega) (by omega)
    obtain ⟨kvs', y', y7', y8', e2, q⟩ := col_loop wc hl hm hin hg (B := B) (A2 := A2) L kvs1 (some (.d (.int h))) y7 y8 (fun a ha => hL a (.tail _ ha)) hpw.2 (fun a ha hn => by
      by_cases q : a = h
      · subst q; exact d1
      · rw [d2 a q]; exact hd a ha (by simp [q, hn])) (by omega)
    exact ⟨kvs', y', y7', y8', .turn rfl e (.inl rfl) e2, q⟩
theorem column_c (wc : WfC c) (hl : c.gs.length < 15000) {m : Nat} (hm : m = 3 ∨ m = 4) (hin : ∀ h, isIn c h → h < m + 2) {g : Int} (hg : litC c g) (h64 : (undL c g.natAbs).length < 64) :
    CallOk (cx2 w base) (n + 3) 261 [cV, insV m, .d (.int g)] (mkG f c r) (.d (.int ((colL c (2 ^ m) g : Nat) : Int))) (mkG f c r) := by
  have hu := under_c (w := w) (base := base) (n := n) (f := f) (r := r) wc (by omega) hg.2 h64
  have hR : 2 ^ m ≤ 16 := by rcases hm with rfl | rfl <;> decide
  have p1 := pow_nat m (by omega)
  have p2 := pow_nat (2 ^ m) (by omega)
  have p3 : binI .sub ((2 ^ 2 ^ m : Nat) : Int) 1 = some (fuI (2 ^ m)) := by
    show some (_ - _) = _
    have := col_full (2 ^ m)
    congr 1
    show _ = ((col (fun _ => true) (2 ^ m) : Nat) : Int)
    omega
  have el2 : lenG (mkG f c r) (insV m) = some m := by
    show (if szOk (iD (nI (inpL m))).length then some (iD (nI (inpL m))).length else none) = _
    have e : (iD (nI (inpL m))).length = m := by rw [iD_len, nI_len]; simp [inpL]
    rw [e, szOk_lt (by omega)]; rfl
  have hx : itemsV (.d (.list (iD (nI (undL c g.natAbs))))) = some (iD (nI (undL c g.natAbs))) := rfl
  refine q_call (Fs := [some cV, some (insV m), some (.d (.int g)), none, none, none, none, none, none]) (fn261 w base) rfl rfl fun B => ?_
  obtain ⟨kvs', y', y7, y8, e, hd⟩ := col_loop (w := w) (base := base) (n := n + 1) (f := f) (r := r) (B := B) wc (by omega) hm hin hg.2 (A2 := some (.d (.int g))) (undL c g.natAbs) [] none none none (fun h q => (mem_undL wc).mp q) (undL_lt c _) (fun h q q' => absurd ((mem_undL wc).mpr q) q') (by simp; omega)
  have hgd : idxG (mkG f c r) (.int (g.natAbs : Int)) (.od kvs') = some (.int ((colV c (2 ^ m) g.natAbs : Nat) : Int)) := hd g.natAbs (.refl _)
  have main : ∀ v F', TS (cx2 w base) (n + 2) (scOf fd261 ls261 B) (bd261.getD 3 (.Pass default)) [some cV, some (insV m), some (.d (.int g)), some (.d (.int ((2 ^ m : Nat) : Int))), some (.d (.int (fuI (2 ^ m)))), some (.od kvs'), y', y7, y8] (mkG f c r) (.ret v) F' (mkG f c r) →
      TSs (cx2 w base) (n + 2) (scOf fd261 ls261 B) bd261 [some cV, some (insV m), some (.d (.int g)), none, none, none, none, none, none] (mkG f c r) (.ret v) F' (mkG f c r) := fun v F' h => by
    refine' TSs_cons (F₁ := [some cV, some (insV m), some (.d (.int g)), some (.d (.int ((2 ^ m : Nat) : Int))), none, none, none, none, none]) (s_asg ?_ ?_ ?_ ?_ ?_)
      (TSs_cons (F₁ := [some cV, some (insV m), some (.d (.int g)), some (.d (.int ((2 ^ m : Nat) : Int))), some (.d (.int (fuI (2 ^ m)))), some (.od []), none, none, none]) (s_asg2 ?_ ?_ ?_ ?_ (TE.tw ?_) TO_dict0.tw ?_ ?_ ?_ ?_ ?_)
      (TSs_cons (s_for ?_ ?_ ?_ hx e ?_) (s_ret h)))
    repeat' (first | (with_reducible exact el2) | (with_reducible exact p1) | (with_reducible exact p2) | (with_reducible exact p3) | (with_reducible exact hu) | k_upd)
  by_cases hp : 0 < g
  · rw [colL_pos c _ hp]
    have hz : decide (0 < g) = true := decide_eq_true hp
    apply Exists.intro
    apply main
    refine' S_ret (q_ite_t ?_ ?_)
    repeat' (first | (with_reducible exact hz) | (with_reducible exact hgd) | k_upd)
  · have p4 : binI .sub (fuI (2 ^ m)) ((colV c (2 ^ m) g.natAbs : Nat) : Int) = some ((colL c (2 ^ m) g : Nat) : Int) := by
      show some (_ - _) = _
      rw [colL_neg c _ hp]
    have hz : decide (0 < g) = false := decide_eq_false hp
    apply Exists.intro
    apply main
    refine' S_ret (q_ite_f ?_ ?_)
    repeat' (first | (with_reducible exact hz) | (with_reducible exact hgd) | (with_reducible exact p4) | k_upd)
end
section
open PySem PySem.W
variable {w : World} {base : Heap} {n : Nat} {c : Ci} {r : List O} {G : List O} {f : O}
noncomputable def nr (row k : Nat) (b : Bool) : Nat := row - row / 2 ^ k % 2 * 2 ^ k + (if b then 2 ^ k else 0)
theorem nr_lt3 : ∀ row < 8, ∀ k < 3, ∀ b, nr row k b < 8 := by decide +kernel
theorem nr_lt4 : ∀ row < 16, ∀ k < 4, ∀ b, nr row k b < 16 := by decide +kernel
theorem nr_bit4 : ∀ row < 16, ∀ k < 4, ∀ b, ∀ j < 4, (nr row k b).testBit j = if j = k then b else row.testBit j := by decide +kernel
theorem nr_lt {m row k : Nat} {b : Bool} (hm : m = 3 ∨ m = 4) (hr : row < 2 ^ m) (hk : k < m) : nr row k b < 2 ^ m := by
  rcases hm with rfl | rfl
  · exact nr_lt3 row hr k hk b
  · exact nr_lt4 row hr k hk b
theorem nr_bit {m row k : Nat} {b : Bool} (hm : m = 3 ∨ m = 4) (hr : row < 2 ^ m) (hk : k < m) (j : Nat) : (nr row k b).testBit j = if j = k then b else row.testBit j := by
  have h16 : 2 ^ m ≤ 16 := by rcases hm with rfl | rfl <;> decide
  have hk4 : k < 4 := by omega
  by_cases hj : j < 4
  · exact nr_bit4 row (by omega) k hk4 b j hj
  · have hp : 2 ^ 4 ≤ 2 ^ j := Nat.pow_le_pow_right (by decide) (by omega)
    have h1 := nr_lt4 row (by omega) k hk4 b
    rw [if_neg (by omega), Nat.testBit_lt_two_pow (by omega), Nat.testBit_lt_two_pow (by omega)]
theorem mul_nat (a b : Nat) (h : a < 100) : binI .mul (a : Int) (b : Int) = some ((a * b : Nat) : Int) := by
  show (if mulOk (a : Int) (b : Int) then some ((a : Int) * (b : Int)) else none) = _
  rw [if_pos (by unfold mulOk; simp; left; omega), Int.natCast_mul]
theorem sub_nat (a b : Nat) (h : b ≤ a) : binI .sub (a : Int) (b : Int) = some ((a - b : Nat) : Int) := by
  show some ((a : Int) - (b : Int)) = _
  rw [Int.natCast_sub h]
theorem add_nat (a b : Nat) : binI .add (a : Int) (b : Int) = some ((a + b : Nat) : Int) := by
  show some ((a : Int) + (b : Int)) = _
  rw [Int.natCast_add]
noncomputable def fb268 : List Stmt := forBody (bd268.getD 1 (.Pass default))
noncomputable abbrev cI_ (q : Nat → Bool) (R : Nat) : V := .d (.int ((col q R : Nat) : Int))
theorem fix_step {m k row : Nat} {b : Bool} (hm : m = 3 ∨ m = 4) (hr : row < 2 ^ m) (hk : k < m) (q : Nat → Bool) {B : Heap} {A1 y6 : Option V} :
    TSs (cx2 w base) n (scOf fd268 ls268 B) fb268 [some (cI_ q (2 ^ m)), A1, some (.d (.int (k : Int))), some (.d (.bool b)), some (cI_ (fun i => q (nr i k b)) row), some (.d (.int row)), y6] G .next
      [some (cI_ q (2 ^ m)), A1, some (.d (.int (k : Int))), some (.d (.bool b)), some (cI_ (fun i => q (nr i k b)) (row + 1)), some (.d (.int row)), some (.d (.int (nr row k b : Nat)))] G := by
  have h16 : 2 ^ m ≤ 16 := by rcases hm with rfl | rfl <;> decide
  have hn := nr_lt (b := b) hm hr hk
  have p1 := pow_nat k (by omega)
  have p2 := fdiv_nat row k (by omega)
  have p3 := fmod_two (row / 2 ^ k)
  have p4 := mul_nat (row / 2 ^ k % 2) (2 ^ k) (by omega)
  have hle : row / 2 ^ k % 2 * 2 ^ k ≤ row := by
    have h1 : row / 2 ^ k % 2 ≤ row / 2 ^ k := Nat.mod_le _ _
    exact Nat.le_trans (Nat.mul_le_mul_right _ h1) (Nat.div_mul_le_self _ _)
  have p5 := sub_nat row (row / 2 ^ k % 2 * 2 ^ k) hle
  have p7 := pow_nat (nr row k b) (by omega)
  have p8 := fdiv_nat (col q (2 ^ m)) (nr row k b) (by omega)
  have p9 := fmod_two (col q (2 ^ m) / 2 ^ nr row k b)
  have p10 := pow_nat row (by omega)
  have p11 := mul_nat (col q (2 ^ m) / 2 ^ nr row k b % 2) (2 ^ row) (by omega)
  have p12 := add_nat (col (fun i => q (nr i k b)) row) (col q (2 ^ m) / 2 ^ nr row k b % 2 * 2 ^ row)
  have hc : col (fun i => q (nr i k b)) row + col q (2 ^ m) / 2 ^ nr row k b % 2 * 2 ^ row = col (fun i => q (nr i k b)) (row + 1) := by
    show _ = col (fun i => q (nr i k b)) row + if q (nr row k b) then 2 ^ row else 0
    rw [col_div q (2 ^ m) _ hn]
    cases q (nr row k b) <;> simp
  rw [hc] at p12
  have near : ∀ B : Heap, TE (cx2 w base) n (scOf fd268 ls268 B) (match fb268.getD 0 (.Pass default) with | .Assign _ e _ => e | _ => .Name "" default) [some (cI_ q (2 ^ m)), A1, some (.d (.int (k : Int))), some (.d (.bool b)), some (cI_ (fun i => q (nr i k b)) row), some (.d (.int row)), y6] G (.d (.int (nr row k b : Nat)))
      [some (cI_ q (2 ^ m)), A1, some (.d (.int (k : Int))), some (.d (.bool b)), some (cI_ (fun i => q (nr i k b)) row), some (.d (.int row)), y6] G := fun B => by
    cases b
    · have p6 : binI .add ((row - row / 2 ^ k % 2 * 2 ^ k : Nat) : Int) 0 = some ((nr row k false : Nat) : Int) := add_nat (row - row / 2 ^ k % 2 * 2 ^ k) 0
      refine' q_bin ?_ ?_ (q_ite_f ?_ ?_) p6
      repeat' (first | (with_reducible exact p1) | (with_reducible exact p2) | (with_reducible exact p3) | (with_reducible exact p4) | (with_reducible exact p5) | k_upd)
    · have p6 : binI .add ((row - row / 2 ^ k % 2 * 2 ^ k : Nat) : Int) ((2 ^ k : Nat) : Int) = some ((nr row k true : Nat) : Int) := add_nat (row - row / 2 ^ k % 2 * 2 ^ k) (2 ^ k)
      refine' q_bin ?_ ?_ (q_ite_t ?_ ?_) p6
      repeat' (first | (with_reducible exact p1) | (with_reducible exact p2) | (with_reducible exact p3) | (with_reducible exact p4) | (with_reducible exact p5) | k_upd)
  refine' TSs_cons (F₁ := [some (cI_ q (2 ^ m)), A1, some (.d (.int (k : Int))), some (.d (.bool b)), some (cI_ (fun i => q (nr i k b)) row), some (.d (.int row)), some (.d (.int (nr row k b : Nat)))]) (s_asg ?_ ?_ ?_ (near B) ?_) (TSs_cons (s_asg ?_ ?_ ?_ (q_bin ?_ ?_ ?_ p12) ?_) TSs_nil)
  repeat' (first | (with_reducible exact p7) | (with_reducible exact p8) | (with_reducible exact p9) | (with_reducible exact p10) | (with_reducible exact p11) | k_upd)
theorem fix_loop {m k : Nat} {b : Bool} (hm : m = 3 ∨ m = 4) (hk : k < m) (q : Nat → Bool) {B : Heap} {A1 : Option V} :
    ∀ (cnt s : Nat) (y5 y6 : Option V), s + cnt = 2 ^ m → ∃ y5' y6', ForR (cx2 w base) n (scOf fd268 ls268 B) (.one 5) fb268 ((List.range' s cnt).map fun i => .int (i : Nat)) [some (cI_ q (2 ^ m)), A1, some (.d (.int (k : Int))), some (.d (.bool b)), some (cI_ (fun i => q (nr i k b)) s), y5, y6] G .next
      [some (cI_ q (2 ^ m)), A1, some (.d (.int (k : Int))), some (.d (.bool b)), some (cI_ (fun i => q (nr i k b)) (2 ^ m)), y5', y6'] G
  | 0, s, y5, y6, h => ⟨y5, y6, by rw [show s = 2 ^ m by omega]; exact .nil⟩
  | cnt + 1, s, y5, y6, h => by
    obtain ⟨y5', y6', e⟩ := fix_loop hm hk q (b := b) (B := B) (A1 := A1) cnt (s + 1) (some (.d (.int s))) (some (.d (.int (nr s k b : Nat)))) (by omega)
    refine ⟨y5', y6', ?_⟩
    rw [List.range'_succ, List.map_cons]
    exact .turn rfl (fix_step hm (by omega) hk q) (.inl rfl) e
theorem fixed_c {m k : Nat} {b : Bool} (hm : m = 3 ∨ m = 4) (hk : k < m) (q : Nat → Bool) :
    CallOk (cx2 w base) (n + 1) 268 [cI_ q (2 ^ m), .d (.int (m : Int)), .d (.int (k : Int)), .d (.bool b)] G (cI_ (fun i => q (nr i k b)) (2 ^ m)) G := by
  have h16 : 2 ^ m ≤ 16 := by rcases hm with rfl | rfl <;> decide
  have p1 := pow_nat m (by omega)
  have e9 : itemsV (.rng 0 ((2 ^ m : Nat) : Int)) = some ((List.range' 0 (2 ^ m)).map fun i => .int (i : Nat)) := by
    rw [← List.range_eq_range']
    exact itemsV_rng (by omega)
  refine q_call (Fs := [some (cI_ q (2 ^ m)), some (.d (.int (m : Int))), some (.d (.int (k : Int))), some (.d (.bool b)), none, none, none]) (fn268 w base) rfl rfl fun B => ?_
  obtain ⟨y5, y6, e⟩ := fix_loop (w := w) (base := base) (n := n) (B := B) (G := G) (b := b) hm hk q (A1 := some (.d (.int (m : Int)))) (2 ^ m) 0 none none (by omega)
  apply Exists.intro
  refine' TSs_cons (F₁ := [some (cI_ q (2 ^ m)), some (.d (.int (m : Int))), some (.d (.int (k : Int))), some (.d (.bool b)), some (.d (.int 0)), none, none]) (s_asg ?_ ?_ ?_ ?_ ?_) (TSs_cons (s_for ?_ ?_ (T_range1 (bq ?_ ?_) ?_ ?_) e9 e ?_) (s_ret (S_ret ?_)))
  repeat' (first | (with_reducible exact p1) | k_upd)
/-! all gates -/
noncomputable def gD (g : Str × List Int) : PyData := .tuple [.str g.1, .tuple (iD g.2)]
noncomputable def agL (c : Ci) (many : Nat) : List PyData := (List.range many).map fun i => match c.gs[i + 1]? with
  | some g => gD g
  | none => .none
theorem agL_ext {c c' : Ci} (x : Ext c c') {many : Nat} (h : many < c.gs.length) : agL c' many = agL c many := by
  unfold agL
  refine List.map_congr_left fun i hi => ?_
  have := List.mem_range.mp hi
  have hg : c.gs[i + 1]? = some c.gs[i + 1] := List.getElem?_eq_getElem (by omega)
  rw [hg, x.pre _ _ hg]
theorem it_rng1 {many : Nat} (h : many < 30000) : itemsV (.rng 1 ((many : Int) + 1)) = some ((List.range many).map fun i => .int ((i + 1 : Nat) : Int)) := by
  show (if -4000000 ≤ (1 : Int) ∧ (1 : Int) ≤ 4000000 ∧ -4000000 ≤ ((many : Int) + 1) ∧ ((many : Int) + 1) ≤ 4000000 then some ((List.range ((many : Int) + 1 - 1).toNat).map fun i => PyData.int (1 + (i : Nat))) else none) = _
  rw [if_pos ⟨by omega, by omega, by omega, by omega⟩, show ((many : Int) + 1 - 1).toNat = many by omega]
  refine congrArg some (List.map_congr_left fun i _ => ?_)
  rw [show ((i + 1 : Nat) : Int) = 1 + (i : Nat) by omega]
theorem all_gates_c (wc : WfC c) (hl : c.gs.length < 30000) {many : Nat} (h : many < c.gs.length) :
    CallOk (cx2 w base) (n + 2) 273 [cV, .d (.int (many : Int))] (mkG f c r) (.d (.list (agL c many))) (mkG f c r) := by
  have e9 := it_rng1 (many := many) (by omega)
  have hal : (agL c many).length = many := by unfold agL; rw [List.length_map, List.length_range]
  have hs : szOk (agL c many).length = true := szOk_lt (by rw [hal]; omega)
  have p1 : binI .add (many : Int) 1 = some ((many : Int) + 1) := rfl
  refine q_call (Fs := [some cV, some (.d (.int (many : Int)))]) (fn273 w base) rfl rfl fun B => ?_
  apply Exists.intro
  refine' s_ret (S_ret (q_comp (core1 (own := 1) ?_ (T_range2 (bq ?_ ?_) ?_ ?_ ?_ ?_) e9 ?_ (fun B => rfl) (fun B => .inl rfl) ?_ ?_ hs) ?_ ?_))
  repeat' (first | (with_reducible exact p1) | k_upd)
  refine steps_pure (g := fun i : Nat => PyData.int ((i + 1 : Nat) : Int)) (h := fun i => match c.gs[i + 1]? with
    | some g => gD g
    | none => .none) (List.range many) (fun i hi => ?_)
  have := List.mem_range.mp hi
  have hg : c.gs[i + 1]? = some (c.gs[i + 1].1, c.gs[i + 1].2) := List.getElem?_eq_getElem (by omega)
  have k1 := kind_c (w := w) (base := base) (n := n) (f := f) (r := r) (g := ((i + 1 : Nat) : Int)) (show c.gs[((i + 1 : Nat) : Int).natAbs]? = _ from hg) (by omega)
  have k2 := parts_c (w := w) (base := base) (n := n) (f := f) (r := r) (g := ((i + 1 : Nat) : Int)) (show c.gs[((i + 1 : Nat) : Int).natAbs]? = _ from hg) (by omega)
  rw [hg]
  refine ⟨[some cV, some (.d (.int (many : Int))), some (.d (.int ((i + 1 : Nat) : Int)))], _, rfl, fun B' => ?_, rfl⟩
  show TE _ _ _ _ _ _ (.d (.tuple [.str c.gs[i + 1].1, .tuple (iD c.gs[i + 1].2)])) _ _
  repeat' (first | (with_reducible exact k1) | (with_reducible exact k2) | k_upd)
end
section
open PySem PySem.W
variable {n : Nat} {c : Ci} {r : List O} {G : List O} {f : O} {cells : List Int}
/-! gate lists are alike -/
theorem eqvAll_iD : ∀ xs : List Int, PyData.eqvAll (iD xs) (iD xs) = true
  | [] => rfl
  | x :: r => by
    have := eqvAll_iD r
    simp only [iD, List.map_cons, PyData.eqvAll, eqv_int, decide_true, Bool.true_and] at *
    exact this
theorem eqv_gD (g : Str × List Int) : PyData.eqv (gD g) (gD g) = true := by
  simp only [gD, PyData.eqv, PyData.eqvAll, eqvAll_iD, beq_self_eq_true, Bool.and_self]
theorem eqvAll_gD : ∀ gs : List (Str × List Int), PyData.eqvAll (gs.map gD) (gs.map gD) = true
  | [] => rfl
  | g :: r => by
    have := eqvAll_gD r
    simp only [List.map_cons, PyData.eqvAll, eqv_gD, Bool.true_and]
    exact this
noncomputable def okK (k : Str) : Prop := k = ("and" : Str) ∨ k = ("input" : Str) ∨ k = ("true" : Str) ∨ k = ("" : Str)
theorem lay_str {k : Str} (h : okK k) : PyData.canLay0 (.str k) = true := by
  rcases h with rfl | rfl | rfl | rfl <;> decide +kernel
theorem lay_gD {g : Str × List Int} (h : okK g.1) : PyData.canLay0 (gD g) = true ∧ PyData.depth (gD g) ≤ 4 := by
  have h1 := depthAll_iD g.2
  have h2 := canLay_iD g.2
  constructor
  · simp only [gD, PyData.canLay0, PyData.canLayAll0, h2, Bool.and_true]
    exact lay_str h
  · simp only [gD, PyData.depth, PyData.depthAll]; omega
theorem layAll_gD : ∀ gs : List (Str × List Int), (∀ g ∈ gs, okK g.1) → PyData.canLayAll0 (gs.map gD) = true ∧ PyData.depthAll (gs.map gD) ≤ 4
  | [], _ => ⟨rfl, by simp [PyData.depthAll]⟩
  | g :: r, h => by
    have h1 := lay_gD (h g (.head _))
    have h2 := layAll_gD r fun x hx => h x (.tail _ hx)
    simp only [List.map_cons, PyData.canLayAll0, PyData.depthAll, h1.1, h2.1, Bool.and_self, true_and]
    omega
theorem okD_gD {gs : List (Str × List Int)} (h : ∀ g ∈ gs, okK g.1) : okD (.list (gs.map gD)) = true := by
  obtain ⟨h1, h2⟩ := layAll_gD gs h
  have h3 : PyData.depth (.list (gs.map gD)) ≤ 64 := by simp only [PyData.depth]; omega
  have h4 : PyData.canLay0 (.list (gs.map gD)) = true := by simp only [PyData.canLay0]; exact h1
  unfold okD SeqAt.shaped
  rw [h4, decide_eq_true h3]; rfl
theorem agL_gD {many : Nat} (h : many < c.gs.length) : agL c many = ((c.gs.drop 1).take many).map gD := by
  unfold agL
  refine List.ext_getElem ?_ fun i h1 h2 => ?_
  · simp; omega
  · simp only [List.length_map, List.length_range] at h1
    have hg : c.gs[i + 1]? = some c.gs[i + 1] := List.getElem?_eq_getElem (by omega)
    simp only [List.getElem_map, List.getElem_range, hg, List.getElem_take, List.getElem_drop]
    congr 2
    omega
theorem eqD_ag (w : WfC c) {many : Nat} (h : many < c.gs.length) : eqD (.list (agL c many)) (.list (agL c many)) = some true := by
  rw [agL_gD h]
  have ok : okD (.list (((c.gs.drop 1).take many).map gD)) = true := okD_gD fun g hg => by
    have hm : g ∈ c.gs := List.mem_of_mem_drop (List.mem_of_mem_take hg)
    obtain ⟨i, hi, rfl⟩ := List.getElem_of_mem hm
    obtain ⟨k, ps, hk, hc⟩ := wf_kind w hi
    rw [List.getElem?_eq_getElem hi] at hk
    cases hk' : c.gs[i] with
    | mk k' ps' =>
      rw [hk'] at hk
      cases hk
      rcases hc with rfl | ⟨rfl | rfl | rfl, _⟩
      · exact .inl rfl
      · exact .inr (.inl rfl)
      · exact .inr (.inr (.inl rfl))
      · exact .inr (.inr (.inr rfl))
  unfold eqD
  rw [ok]
  simp only [Bool.and_self, if_true, PyData.eqv, eqvAll_gD]

/-! the inputs -/
theorem vl_env (w : WfC c) {ρ ρ' : Nat → Bool} (h : ∀ i, isIn c i → ρ i = ρ' i) : ∀ (n g : Nat), g < n → vl c ρ g = vl c ρ' g
  | 0, _, h => by omega
  | n + 1, g, hn => by
    by_cases hl : g < c.gs.length
    · obtain ⟨k, ps, hk, _⟩ := wf_kind w hl
      by_cases e : k = ("input" : Str)
      · subst e
        rw [vl_in hk, vl_in hk]
        exact h g (w.in_nil hk).1
      · rw [vl_and w hk e, vl_and w hk e]
        refine all_congr' fun p hp => ?_
        have := kid_lt w hk hp
        have q := vl_env w h n p.natAbs (by omega)
        unfold lv
        rw [q]
    · have : c.gs[g]? = none := List.getElem?_eq_none_iff.mpr (by omega)
      unfold vl vlf
      rw [this]
noncomputable def cI : Ci := ⟨[("", []), ("true", [])], []⟩
noncomputable def cIn : Nat → Ci → Ci
  | 0, c => c
  | m + 1, c => cIn m (c.add "input" [])
theorem in_steps {stp : PyData → List O → List PyData → List O → Prop} : ∀ (xs : List PyData) (c : Ci), c.gs.length + xs.length < 1000 →
    (∀ x (c : Ci), c.gs.length < 1000 → stp x (mkG f c r) [.int c.gs.length] (mkG f (c.add "input" []) r)) → Steps stp xs (mkG f c r) ((List.range' c.gs.length xs.length).map fun i => .int (i : Nat)) (mkG f (cIn xs.length c) r)
  | [], c, _, _ => .nil
  | x :: xs, c, h, hs => by
    simp only [List.length_cons] at h
    have e := Steps.cons (hs x c (by omega)) (in_steps xs (c.add "input" []) (by simp [Ci.add]; omega) hs)
    have : (c.add "input" []).gs.length = c.gs.length + 1 := by simp [Ci.add]
    rw [this] at e
    rw [List.length_cons, List.range'_succ, List.map_cons]
    exact e
/-- a circuit whose inputs are the m first gates -/
structure CM (m : Nat) (c : Ci) : Prop where
  w : WfC c
  inp : ∀ h, isIn c h ↔ 2 ≤ h ∧ h < m + 2
theorem CM.step {m k : Nat} {c c' : Ci} {v : Int} (h : CM m c) (g : GOk k c v c') : CM m c' :=
  ⟨g.w, fun a => ⟨fun q => (h.inp a).mp (g.inp a [] q), fun q => g.x.pre _ _ ((h.inp a).mpr q)⟩⟩
theorem cm_start {m : Nat} (hm : m = 3 ∨ m = 4) : CM m (cIn m cI) ∧ (cIn m cI).gs.length = m + 2 ∧ (cIn m cI).kn = [] := by
  have key : ∀ m, m = 3 ∨ m = 4 → (cIn m cI).gs = [(("" : Str), []), (("true" : Str), [])] ++ List.replicate m (("input" : Str), []) ∧ (cIn m cI).kn = [] := by
    intro m hm
    rcases hm with rfl | rfl <;> exact ⟨rfl, rfl⟩
  obtain ⟨k1, k2⟩ := key m hm
  have hlen : (cIn m cI).gs.length = m + 2 := by rw [k1]; simp
  have hg : ∀ i, 2 ≤ i → i < m + 2 → (cIn m cI).gs[i]? = some (("input" : Str), []) := fun i h1 h2 => by
    rw [k1, List.getElem?_append_right (by simpa using h1), List.getElem?_replicate, if_pos (by simp; omega)]
  refine ⟨⟨⟨by rw [k1]; rfl, by rw [k1]; rfl, fun i k ps h1 h2 => ?_, fun ps v h => ?_⟩, fun h => ⟨fun q => ?_, fun q => hg h q.1 q.2⟩⟩, hlen, k2⟩
  · have := (List.getElem?_eq_some_iff.mp h2).1
    rw [hg i h1 (by omega)] at h2
    cases h2
    exact .inl ⟨rfl, rfl⟩
  · rw [k2] at h; cases h
  · have hl := (List.getElem?_eq_some_iff.mp q).1
    refine ⟨?_, by omega⟩
    by_cases h2 : 2 ≤ h
    · exact h2
    · exfalso
      unfold isIn at q
      rw [k1] at q
      have : h = 0 ∨ h = 1 := by omega
      rcases this with rfl | rfl
      · have := congrArg (fun o => o.map (·.1)) q
        simp at this; exact absurd this (by decide)
      · have := congrArg (fun o => o.map (·.1)) q
        simp at this; exact absurd this (by decide)
end
section
open PySem PySem.W
variable {w : World} {base : Heap} {n : Nat} {c : Ci} {r : List O} {G : List O} {f : O} {cells : List Int}
noncomputable def fl278 : List Stmt := forBody (bd278.getD 3 (.Pass default))
theorem lap_loop {m : Nat} (hc : cells.length ≤ 63) {A0 A4 : Option V} : ∀ (xs : List PyData) (c : Ci) (gates : List Int) (k : Nat) (y3 y6 : Option V), CM m c → (∀ g ∈ gates, lit2 c.gs.length g) → 0 < gates.length → gates.length + xs.length < 1000 →
      k + 8 * xs.length < 8000 → c.gs.length + 3 * xs.length < 20000 → c.kn.length + 3 * xs.length < 20000 →
    ∃ c' gates' k' y3' y6', (∀ B : Heap, ForR (cx2 w base) (n + 6) (scOf fd278 ls278 B) (.one 3) fl278 xs [A0, some (.h 0), some cV, y3, A4, some (.ol (iD gates)), y6, none, none, none, none, none, none, none, none, none] (mkG (feO cells k) c r) .next
        [A0, some (.h 0), some cV, y3', A4, some (.ol (iD gates')), y6', none, none, none, none, none, none, none, none, none] (mkG (feO cells k') c' r)) ∧
      CM m c' ∧ (∀ g ∈ gates', lit2 c'.gs.length g) ∧ gates'.length ≤ gates.length + xs.length ∧ k' ≤ k + 8 * xs.length ∧ c'.gs.length ≤ c.gs.length + 3 * xs.length ∧ c'.kn.length ≤ c.kn.length + 3 * xs.length
  | [], c, gates, k, y3, y6, cm, hg, _, _, _, _, _ => ⟨c, gates, k, y3, y6, fun _ => .nil, cm, hg, by simp, by simp, by simp, by simp⟩
  | x :: xs, c, gates, k, y3, y6, cm, hg, h0, h1, h2, h3, h4 => by
    simp only [List.length_cons] at h1 h2 h3 h4
    obtain ⟨v, c1, k1, hk1, ok, e⟩ := gate_c cm.w hg h0 (by omega) hc (k := k) (by omega) (by omega) (by omega)
    have l1 := ok.len
    have l2 := ok.kln
    have xl := ok.x.len
    have hg1 : ∀ g ∈ gates, lit2 c1.gs.length g := fun g q => ⟨(hg g q).1, by have := (hg g q).2; omega⟩
    have e' := e w base n r
    by_cases hv : 2 ≤ v.natAbs
    · have hg2 : ∀ g ∈ gates ++ [v], lit2 c1.gs.length g := fun g q => by
        rcases List.mem_append.mp q with q | q
        · exact hg1 g q
        · have : g = v := by simpa using q
          subst this
          exact ⟨hv, ok.v2⟩
      have hl2 : (gates ++ [v]).length = gates.length + 1 := by simp
      obtain ⟨c', gates', k', y3', y6', e2, q1, q2, q3, q4, q5, q6⟩ := lap_loop hc (A0 := A0) (A4 := A4) xs c1 (gates ++ [v]) k1 (some (.d x)) (some (.d (.int v))) (cm.step ok) hg2 (by omega) (by omega) (by omega) (by omega) (by omega)
      refine ⟨c', gates', k', y3', y6', fun B => .turn rfl ?_ (.inl rfl) (e2 B), q1, q2, by simp only [List.length_cons]; omega, by simp only [List.length_cons]; omega, by simp only [List.length_cons]; omega, by simp only [List.length_cons]; omega⟩
      have es : szOk (iD gates).length = true := szOk_lt (by rw [iD_len]; omega)
      have hz : decide ((1 : Int) < (v.natAbs : Int)) = true := decide_eq_true (by omega)
      have ea : some (V.ol (iD gates ++ [.int v])) = some (.ol (iD (gates ++ [v]))) := by rw [iD_app]; rfl
      rw [← ea]
      refine' TSs_cons (F₁ := [A0, some (.h 0), some cV, some (.d x), A4, some (.ol (iD gates)), some (.d (.int v)), none, none, none, none, none, none, none, none, none]) (s_asg ?_ ?_ ?_ ?_ ?_) (TSs_cons (s_if_t ?_ (TSs_cons (s_appV ?_ ?_ ?_ ?_ es ?_ ?_ ?_) TSs_nil)) TSs_nil)
      repeat' (first | (with_reducible exact e') | (with_reducible exact hz) | k_upd)
    · obtain ⟨c', gates', k', y3', y6', e2, q1, q2, q3, q4, q5, q6⟩ := lap_loop hc (A0 := A0) (A4 := A4) xs c1 gates k1 (some (.d x)) (some (.d (.int v))) (cm.step ok) hg1 (by omega) (by omega) (by omega) (by omega) (by omega)
      refine ⟨c', gates', k', y3', y6', fun B => .turn rfl ?_ (.inl rfl) (e2 B), q1, q2, by simp only [List.length_cons]; omega, by simp only [List.length_cons]; omega, by simp only [List.length_cons]; omega, by simp only [List.length_cons]; omega⟩
      have hz : decide ((1 : Int) < (v.natAbs : Int)) = false := decide_eq_false (by omega)
      refine' TSs_cons (F₁ := [A0, some (.h 0), some cV, some (.d x), A4, some (.ol (iD gates)), some (.d (.int v)), none, none, none, none, none, none, none, none, none]) (s_asg ?_ ?_ ?_ ?_ ?_) (TSs_cons (s_if_f ?_ TSs_nil) TSs_nil)
      repeat' (first | (with_reducible exact e') | (with_reducible exact hz) | k_upd)
end
section
open PySem PySem.W
variable {w : World} {base : Heap} {n : Nat} {c : Ci} {r : List O} {G : List O} {f : O} {cells : List Int}
/-- what the law's loop keeps -/
structure LI (m : Nat) (c : Ci) (g : Int) (sup : List (Int × PyData)) : Prop where
  cm : CM m c
  lit : litC c g
  sz : (undL c g.natAbs).length ≤ 63
  so : SupOk c sup
noncomputable abbrev insP (m : Nat) : List PyData := iD (nI (inpL m))
noncomputable def fm278 : List Stmt := forBody (bd278.getD 7 (.Pass default))
theorem q_iteB {cx : Cx} {n : Nat} {sc : Sc} {F F₁ F' : Fr'} {G G₁ G' : List O} {c a b : Expr} {p : Pos} {z : Bool} {x y : Int} (h₁ : TB cx n sc c F G z F₁ G₁) (ha : z = true → TE cx n sc a F₁ G₁ (.d (.int x)) F' G') (hb : z = false → TE cx n sc b F₁ G₁ (.d (.int y)) F' G') :
    TE cx n sc (.IfExp c a b p) F G (.d (.int (if z then x else y))) F' G' := by
  cases z
  · exact q_ite_f h₁ (hb rfl)
  · exact q_ite_t h₁ (ha rfl)
theorem inU (G : List O) {c : Ci} {y x : Nat} {b : Bool} (wc : WfC c) (q : Rch c y x ↔ b = true) : inG G (.int (x : Int)) (.d (.list (iD (nI (undL c y))))) = some b := by
  show (if okD (.int (x : Int)) && PyData.canLayAll0 (iD (nI (undL c y))) then some ((iD (nI (undL c y))).any fun y => PyData.eqv y (.int (x : Int))) else none) = _
  rw [okD_int, canLay_iD, any_iD]
  have : decide ((x : Int) ∈ nI (undL c y)) = b := by
    rw [Bool.eq_iff_iff, decide_eq_true_eq, mem_nI, mem_undL wc]; exact q
  rw [this]; rfl
theorem body_A {m x k : Nat} {g : Int} {sup : List (Int × PyData)} (hc : cells.length ≤ 63) (hk : k < 9000) (li : LI m c g sup) (hl : c.gs.length < 14000) (hr : ¬ Rch c g.natAbs x)
    {A0 A3 A7 A9 y11 y12 y13 y14 y15 : Option V} :
    ∃ y, ∀ B : Heap, TSs (cx2 w base) (n + 6) (scOf fd278 ls278 B) fm278 [A0, some (.h 0), some cV, A3, some (insV m), none, some (.d (.int g)), A7, some (tV (insP m)), A9, some (.d (.int (x : Int))), y11, y12, y13, y14, y15] (mkG (feO cells k) c (rS sup)) .cont
      [A0, some (.h 0), some cV, A3, some (insV m), none, some (.d (.int g)), A7, some (tV (insP m)), A9, some (.d (.int (x : Int))), y, y12, y13, y14, y15] (mkG (feO cells (k + 1)) c (rS sup)) := by
  obtain ⟨d, hd, e1⟩ := draw_c (cells := cells) (k := k) (m := 2) (by omega) hc (by omega)
  have e1' : CallOk (cx2 w base) (n + 6) 239 [.h 0, .d (.int 2)] (mkG (feO cells k) c (rS sup)) (.d (.int d)) (mkG (feO cells (k + 1)) c (rS sup)) := e1 w base (n + 5) c (rS sup)
  have e2 := under_c (w := w) (base := base) (n := n + 4) (f := feO cells (k + 1)) (r := rS sup) li.cm.w (by omega) li.lit.2 (by have := li.sz; omega)
  have hin : inG (mkG (feO cells (k + 1)) c (rS sup)) (.int (x : Int)) (.d (.list (iD (nI (undL c g.natAbs))))) = some (!true) := inU _ li.cm.w ⟨fun q => absurd q hr, fun q => (by cases q)⟩
  refine ⟨some (.d (.bool (decide ((d : Int) = 1)))), fun B => ?_⟩
  have e3 := eqD_int (d : Int) 1
  refine' TSs_cons (F₁ := [A0, some (.h 0), some cV, A3, some (insV m), none, some (.d (.int g)), A7, some (tV (insP m)), A9, some (.d (.int (x : Int))), some (.d (.bool (decide ((d : Int) = 1)))), y12, y13, y14, y15]) (s_asg ?_ ?_ ?_ ?_ ?_) (s_cnt (s_if_t ?_ (s_cnt S_cont)))
  repeat' (first | (with_reducible exact e1') | (with_reducible exact e3) | (with_reducible exact e2) | (with_reducible exact hin) | k_upd)
theorem body_B {m x k : Nat} {g : Int} {sup : List (Int × PyData)} (hm : m = 3 ∨ m = 4) (hc : cells.length ≤ 63) (hk : k < 9000) (li : LI m c g sup) (hl : c.gs.length < 14000) (hkl : c.kn.length < 14000) (hr : Rch c g.natAbs x) (hx : isIn c x)
    {A0 A3 A7 A9 y11 y12 y13 y14 y15 : Option V} :
    ∃ b v c' sup' z11 z12 z13 z14 z15, (∀ B : Heap, TSs (cx2 w base) (n + 6) (scOf fd278 ls278 B) fm278 [A0, some (.h 0), some cV, A3, some (insV m), none, some (.d (.int g)), A7, some (tV (insP m)), A9, some (.d (.int (x : Int))), y11, y12, y13, y14, y15] (mkG (feO cells k) c (rS sup)) .next
      [A0, some (.h 0), some cV, A3, some (insV m), none, some (.d (.int v)), A7, some (tV (insP m)), A9, some (.d (.int (x : Int))), z11, z12, z13, z14, z15] (mkG (feO cells (k + 1)) c' (rS sup'))) ∧
      StOk c g.natAbs x b v c' ∧ SupOk c' sup' := by
  obtain ⟨d, hd, e1⟩ := draw_c (cells := cells) (k := k) (m := 2) (by omega) hc (by omega)
  have e1' : CallOk (cx2 w base) (n + 6) 239 [.h 0, .d (.int 2)] (mkG (feO cells k) c (rS sup)) (.d (.int d)) (mkG (feO cells (k + 1)) c (rS sup)) := e1 w base (n + 5) c (rS sup)
  have wc := li.cm.w
  have hx2 := (wc.in_nil hx).2
  have hxl := ((li.cm.inp x).mp hx).2
  have hle := hr.le wc
  have sz := li.sz
  have hin : ∀ h, isIn c h → h < m + 2 := fun h q => ((li.cm.inp h).mp q).2
  have e2 := under_c (w := w) (base := base) (n := n + 4) (f := feO cells (k + 1)) (r := rS sup) wc (by omega) li.lit.2 (by omega)
  have i2 : inG (mkG (feO cells (k + 1)) c (rS sup)) (.int (x : Int)) (.d (.list (iD (nI (undL c g.natAbs))))) = some (!false) := inU _ wc ⟨fun _ => rfl, fun _ => hr⟩
  have e3 := eqD_int (d : Int) 1
  generalize hb : decide ((d : Int) = 1) = b at e3
  -- size, elder
  have wl := wc.len
  have e4 := size_c (w := w) (base := base) (n := n + 5) (f := feO cells (k + 1)) (r := rS sup) (c := c) (by omega) (by omega)
  have e5 := all_gates_c (w := w) (base := base) (n := n + 4) (f := feO cells (k + 1)) (r := rS sup) wc (by omega) (many := c.gs.length - 1) (by omega)
  -- settled
  obtain ⟨sup1, so1, e6⟩ := settled_c (w := w) (base := base) (n := n + 2) (f := feO cells (k + 1)) (b := b) wc li.lit.2 hx hr (by omega) li.so (by omega) (by omega) (inp := insP m)
  have st := stt_ok wc (b := b) hx li.lit.2 (by omega)
  have again := fun c'' (q : Ext (stt c g.natAbs x b).2 c'') => stt_again (c := c) wc (x := x) (b := b) li.lit.2 q
  generalize hv : tvN (stt c g.natAbs x b).1 g.natAbs = v at *
  generalize hc' : (stt c g.natAbs x b).2 = c' at *
  have wc' := st.w
  have hx' : isIn c' x := st.ext.pre _ _ hx
  have hr' : Rch c' g.natAbs x := (Rch.ext wc st.ext li.lit.2).mpr hr
  have hu' : undL c' g.natAbs = undL c g.natAbs := undL_ext wc st.ext li.lit.2
  have hl' : c'.gs.length < 14100 := by have := st.len; omega
  have hkl' : c'.kn.length < 14100 := by have := st.kln; omega
  have cm' : ∀ h, isIn c' h → h < m + 2 := fun h q => hin h (st.inp h [] q)
  have lg : litC c' (g.natAbs : Int) := ⟨by have := li.lit.1; omega, by have := li.lit.2; have := st.ext.len; omega⟩
  have sv := st.size
  -- due
  have e7 := column_c (w := w) (base := base) (n := n + 3) (f := feO cells (k + 1)) (r := rS sup1) wc' (by omega) hm cm' lg (by rw [show ((g.natAbs : Int)).natAbs = g.natAbs from rfl, hu']; omega)
  have e8 := fixed_c (w := w) (base := base) (n := n + 5) (G := mkG (feO cells (k + 1)) c' (rS sup1)) (b := b) hm (show x - 2 < m by omega) (fun row => lv c' (envR row) (g.natAbs : Int))
  have e9 := column_c (w := w) (base := base) (n := n + 3) (f := feO cells (k + 1)) (r := rS sup1) wc' (by omega) hm cm' st.lit (by omega)
  have hcol : colL c' (2 ^ m) v = col (fun i => lv c' (envR (nr i (x - 2) b)) (g.natAbs : Int)) (2 ^ m) := by
    unfold colL
    refine col_congr fun row hrow => ?_
    rw [st.sem]
    have : lv c' (envR (nr row (x - 2) b)) (g.natAbs : Int) = vl c (envR (nr row (x - 2) b)) g.natAbs := by
      unfold lv
      rw [if_pos (by have := lg.1; omega)]
      exact vl_ext wc wc' st.ext _ _ _ (Nat.lt_succ_self _) li.lit.2
    rw [this]
    refine vl_env wc (fun i hi => ?_) _ _ (Nat.lt_succ_self _)
    have h2 := (wc.in_nil hi).2
    unfold updE envR
    rw [nr_bit hm hrow (by omega)]
    by_cases e : i = x
    · subst e; simp
    · rw [if_neg e, if_neg (by omega)]
  rw [hcol] at e9
  -- under found
  have e10 := under_c (w := w) (base := base) (n := n + 4) (f := feO cells (k + 1)) (r := rS sup1) wc' (by omega) st.lit.2 (by omega)
  have i10 : inG (mkG (feO cells (k + 1)) c' (rS sup1)) (.int (x : Int)) (.d (.list (iD (nI (undL c' v.natAbs))))) = some false := inU _ wc' ⟨fun q => absurd rfl (st.und x hx' q).1, fun q => (by cases q)⟩
  -- the elder again, settled again
  have e11 := all_gates_c (w := w) (base := base) (n := n + 4) (f := feO cells (k + 1)) (r := rS sup1) wc' (by omega) (many := c.gs.length - 1) (by have := st.ext.len; omega)
  rw [agL_ext st.ext (by omega)] at e11
  have q11 := eqD_ag wc (many := c.gs.length - 1) (by omega)
  obtain ⟨sup2, so2, e12⟩ := settled_c (w := w) (base := base) (n := n + 2) (f := feO cells (k + 1)) (b := b) wc' (show g.natAbs < c'.gs.length by have := lg.2; omega) hx' hr' (by rw [hu']; omega) so1 (by omega) (by omega) (inp := insP m)
  have ag := again c' (.refl _)
  rw [ag] at e12 so2
  simp only at e12 so2
  rw [hv] at e12
  have q11' : eqD (.list (agL c (c.gs.length - 1))) (.list (agL c (c.gs.length - 1))) = some (!false) := q11
  have qv : eqD (.int v) (.int v) = some (!false) := eqD_t rfl
  have ex := idx_ins hm hx2 hxl
  have el : szOk (insP m).length = true := szOk_lt (by show (iD (nI (inpL m))).length < _; rw [iD_len, nI_len]; simp [inpL]; omega)
  have el2 : lenG (mkG (feO cells (k + 1)) c' (rS sup1)) (insV m) = some m := by
    show (if szOk (insP m).length then some (insP m).length else none) = _
    rw [el]
    show some (iD (nI (inpL m))).length = _
    rw [iD_len, nI_len]; simp [inpL]
  have ea : asInts (insP m) = some (nI (inpL m)) := asInts_iD _
  have e7' : CallOk (cx2 w base) (n + 6) 261 [cV, insV m, .d (.int (g.natAbs : Int))] (mkG (feO cells (k + 1)) c' (rS sup1)) (cI_ (fun row => lv c' (envR row) (g.natAbs : Int)) (2 ^ m)) (mkG (feO cells (k + 1)) c' (rS sup1)) := e7
  generalize hdue : ((col (fun i => lv c' (envR (nr i (x - 2) b)) (g.natAbs : Int)) (2 ^ m) : Nat) : Int) = DUE at *
  have e8' : CallOk (cx2 w base) (n + 6) 268 [cI_ (fun row => lv c' (envR row) (g.natAbs : Int)) (2 ^ m), .d (.int (m : Int)), .d (.int ((x - 2 : Nat) : Int)), .d (.bool b)] (mkG (feO cells (k + 1)) c' (rS sup1)) (.d (.int DUE)) (mkG (feO cells (k + 1)) c' (rS sup1)) := by rw [← hdue]; exact e8
  have qd : eqD (.int DUE) (.int DUE) = some (!false) := eqD_t rfl
  refine ⟨b, v, c', sup2, some (.d (.bool b)), some (.d (.int ((c.gs.length - 1 : Nat) : Int))), some (.d (.list (agL c (c.gs.length - 1)))), some (.d (.int v)), some (.d (.int DUE)), fun B => ?_, st, so2⟩
  have s1 : TSs (cx2 w base) (n + 6) (scOf fd278 ls278 B) (fm278.drop 6) [A0, some (.h 0), some cV, A3, some (insV m), none, some (.d (.int g)), A7, some (tV (insP m)), A9, some (.d (.int (x : Int))), some (.d (.bool b)), some (.d (.int ((c.gs.length - 1 : Nat) : Int))), some (.d (.list (agL c (c.gs.length - 1)))), some (.d (.int v)), some (.d (.int DUE))] (mkG (feO cells (k + 1)) c' (rS sup1)) .next [A0, some (.h 0), some cV, A3, some (insV m), none, some (.d (.int v)), A7, some (tV (insP m)), A9, some (.d (.int (x : Int))), some (.d (.bool b)), some (.d (.int ((c.gs.length - 1 : Nat) : Int))), some (.d (.list (agL c (c.gs.length - 1)))), some (.d (.int v)), some (.d (.int DUE))] (mkG (feO cells (k + 1)) c' (rS sup2)) := by
    refine' TSs_cons (s_if_f (b_or_f ?_ ?_) TSs_nil) (TSs_cons (s_if_f (b_or_f ?_ ?_) TSs_nil) (TSs_cons (s_asg ?_ ?_ ?_ ?_ ?_) TSs_nil))
    repeat' (first | (with_reducible refine' q_iteB ?_ (fun _ => ?_) (fun _ => ?_)) | (with_reducible exact e9) | (with_reducible exact qd) | (with_reducible exact e10) | (with_reducible exact i10) | (with_reducible exact e11) | (with_reducible exact q11') | (with_reducible exact e12) | (with_reducible exact qv) | k_upd)
  refine' TSs_cons (F₁ := [A0, some (.h 0), some cV, A3, some (insV m), none, some (.d (.int g)), A7, some (tV (insP m)), A9, some (.d (.int (x : Int))), some (.d (.bool b)), y12, y13, y14, y15]) (s_asg ?_ ?_ ?_ ?_ ?_) (TSs_cons (s_if_f ?_ TSs_nil) (TSs_cons (F₁ := [A0, some (.h 0), some cV, A3, some (insV m), none, some (.d (.int g)), A7, some (tV (insP m)), A9, some (.d (.int (x : Int))), some (.d (.bool b)), some (.d (.int ((c.gs.length - 1 : Nat) : Int))), y13, y14, y15]) (s_asg ?_ ?_ ?_ ?_ ?_) (TSs_cons (F₁ := [A0, some (.h 0), some cV, A3, some (insV m), none, some (.d (.int g)), A7, some (tV (insP m)), A9, some (.d (.int (x : Int))), some (.d (.bool b)), some (.d (.int ((c.gs.length - 1 : Nat) : Int))), some (.d (.list (agL c (c.gs.length - 1)))), y14, y15]) (s_asg ?_ ?_ ?_ ?_ ?_) (TSs_cons (F₁ := [A0, some (.h 0), some cV, A3, some (insV m), none, some (.d (.int g)), A7, some (tV (insP m)), A9, some (.d (.int (x : Int))), some (.d (.bool b)), some (.d (.int ((c.gs.length - 1 : Nat) : Int))), some (.d (.list (agL c (c.gs.length - 1)))), some (.d (.int v)), y15]) (s_asg ?_ ?_ ?_ ?_ ?_) (TSs_cons (F₁ := [A0, some (.h 0), some cV, A3, some (insV m), none, some (.d (.int g)), A7, some (tV (insP m)), A9, some (.d (.int (x : Int))), some (.d (.bool b)), some (.d (.int ((c.gs.length - 1 : Nat) : Int))), some (.d (.list (agL c (c.gs.length - 1)))), some (.d (.int v)), some (.d (.int DUE))]) (s_asg ?_ ?_ ?_ (q_fn (fq (n_law_fixed _ _) ?_) (TA_cons ?_ ?_ (TA_cons ?_ ?_ (TA_cons ?_ (T_index ?_ ?_ ?_ ?_ ?_ el ea ex) ?_))) e8' ?_) ?_) s1)))))
  repeat' (first | (with_reducible refine' q_iteB ?_ (fun _ => ?_) (fun _ => ?_)) | (with_reducible exact e1') | (with_reducible exact e3) | (with_reducible exact e2) | (with_reducible exact i2) | (with_reducible exact e4) | (with_reducible exact e5) | (with_reducible exact e6) | (with_reducible exact e7') | (with_reducible exact el2) | k_upd)
end
section
open PySem PySem.W
variable {w : World} {base : Heap} {n : Nat} {c : Ci} {r : List O} {G : List O} {f : O} {cells : List Int}
theorem main_loop {m : Nat} (hm : m = 3 ∨ m = 4) (hc : cells.length ≤ 63) {A0 A3 A7 A9 : Option V} :
    ∀ (L : List Nat) (c : Ci) (g : Int) (sup : List (Int × PyData)) (k : Nat) (y10 y11 y12 y13 y14 y15 : Option V), LI m c g sup → (∀ y, isIn c y → y ∉ L → ¬ Rch c g.natAbs y) → (∀ x ∈ L, 2 ≤ x ∧ x < m + 2) → k + L.length < 9000 → c.gs.length + 63 * L.length < 14000 → c.kn.length + 63 * L.length < 14000 →
      ∃ k' c' g' sup' z10 z11 z12 z13 z14 z15, (∀ B : Heap, ForR (cx2 w base) (n + 6) (scOf fd278 ls278 B) (.one 10) fm278 (iD (nI L)) [A0, some (.h 0), some cV, A3, some (insV m), none, some (.d (.int g)), A7, some (tV (insP m)), A9, y10, y11, y12, y13, y14, y15] (mkG (feO cells k) c (rS sup)) .next
        [A0, some (.h 0), some cV, A3, some (insV m), none, some (.d (.int g')), A7, some (tV (insP m)), A9, z10, z11, z12, z13, z14, z15] (mkG (feO cells k') c' (rS sup'))) ∧
        LI m c' g' sup' ∧ ∀ y, isIn c' y → ¬ Rch c' g'.natAbs y
  | [], c, g, sup, k, y10, y11, y12, y13, y14, y15, li, hd, _, _, _, _ => ⟨k, c, g, sup, y10, y11, y12, y13, y14, y15, fun _ => .nil, li, fun y q => hd y q (by simp)⟩
  | x :: L, c, g, sup, k, y10, y11, y12, y13, y14, y15, li, hd, hL, h1, h2, h3 => by
    simp only [List.length_cons] at h1 h2 h3
    have hxx := hL x (.head _)
    have hx : isIn c x := (li.cm.inp x).mpr hxx
    by_cases hr : Rch c g.natAbs x
    · obtain ⟨b, v, c1, sup1, z11, z12, z13, z14, z15, e, st, so⟩ := body_B (w := w) (base := base) (n := n) hm hc (k := k) (by omega) li (by omega) (by omega) hr hx (A0 := A0) (A3 := A3) (A7 := A7) (A9 := A9) (y11 := y11) (y12 := y12) (y13 := y13) (y14 := y14) (y15 := y15)
      have sz := li.sz
      have l1 := st.len
      have l2 := st.kln
      have l3 := st.size
      have cm1 : CM m c1 := ⟨st.w, fun a => ⟨fun q => (li.cm.inp a).mp (st.inp a [] q), fun q => st.ext.pre _ _ ((li.cm.inp a).mpr q)⟩⟩
      have li1 : LI m c1 v sup1 := ⟨cm1, st.lit, by omega, so⟩
      obtain ⟨k', c', g', sup', w10, w11, w12, w13, w14, w15, e2, q⟩ := main_loop hm hc (A0 := A0) (A3 := A3) (A7 := A7) (A9 := A9) L c1 v sup1 (k + 1) (some (.d (.int (x : Int)))) z11 z12 z13 z14 z15 li1 (fun y hy hn q => by
        have r := st.und y hy q
        exact hd y (st.inp y [] hy) (by simp [r.1, hn]) r.2) (fun a ha => hL a (.tail _ ha)) (by omega) (by omega) (by omega)
      exact ⟨k', c', g', sup', w10, w11, w12, w13, w14, w15, fun B => .turn rfl (e B) (.inl rfl) (e2 B), q⟩
    · obtain ⟨z, e⟩ := body_A (w := w) (base := base) (n := n) hc (k := k) (by omega) li (by omega) hr (A0 := A0) (A3 := A3) (A7 := A7) (A9 := A9) (y11 := y11) (y12 := y12) (y13 := y13) (y14 := y14) (y15 := y15)
      obtain ⟨k', c', g', sup', w10, w11, w12, w13, w14, w15, e2, q⟩ := main_loop hm hc (A0 := A0) (A3 := A3) (A7 := A7) (A9 := A9) L c g sup (k + 1) (some (.d (.int (x : Int)))) z y12 y13 y14 y15 li (fun y hy hn q => by
        by_cases e : y = x
        · subst e; exact hr q
        · exact hd y hy (by simp [e, hn]) q) (fun a ha => hL a (.tail _ ha)) (by omega) (by omega) (by omega)
      exact ⟨k', c', g', sup', w10, w11, w12, w13, w14, w15, fun B => .turn rfl (e B) (.inr rfl) (e2 B), q⟩
end
section
open PySem PySem.W
variable {w : World} {base : Heap} {n : Nat} {c : Ci} {r : List O} {G : List O} {f : O} {cells : List Int}
set_option maxRecDepth 100000 in
theorem cls2C (P : Params) : ClsMk (K2 P) 228 136 "Circuit" ["kinds", "parts_now", "known"] where
  makes := by rfl
  init := by rfl
  fn := by rfl
  kp := by rfl
  glob := by rfl
  set := by rfl
  over := by rfl
  has := by rfl
  free := fun f hf => by
    rcases List.mem_cons.mp hf with rfl | hf
    · rfl
    rcases List.mem_cons.mp hf with rfl | hf
    · rfl
    rcases List.mem_cons.mp hf with rfl | hf
    · rfl
    · cases hf
set_option maxRecDepth 100000 in
theorem cls2T (P : Params) : ClsMk (K2 P) 118 35 "Counter" ["circuit", "inputs", "known", "plans", "supports"] where
  makes := by rfl
  init := by rfl
  fn := by rfl
  kp := by rfl
  glob := by rfl
  set := by rfl
  over := by rfl
  has := by rfl
  free := fun f hf => by
    rcases List.mem_cons.mp hf with rfl | hf
    · rfl
    rcases List.mem_cons.mp hf with rfl | hf
    · rfl
    rcases List.mem_cons.mp hf with rfl | hf
    · rfl
    rcases List.mem_cons.mp hf with rfl | hf
    · rfl
    rcases List.mem_cons.mp hf with rfl | hf
    · rfl
    · cases hf
noncomputable def tupE (i : Nat) : Stmt → Expr
  | .Assign _ (.Tuple es _ _) _ => es.getD i (.Name "" default)
  | _ => .Name "" default
theorem szI {m : Nat} (hm : m = 3 ∨ m = 4) : szOk (insP m).length = true := szOk_lt (by show (iD (nI (inpL m))).length < _; rw [iD_len, nI_len]; simp [inpL]; omega)
theorem law1 (ns : List Int) (h : ns.length ≤ 63) {B : Heap} : TS (cx2 w base) (n + 6) (scOf fd278 ls278 B) (bd278.getD 0 (.Pass default)) [some (.d (.list (iD ns))), none, none, none, none, none, none, none, none, none, none, none, none, none, none, none] [] .next [some (.d (.list (iD ns))), some (.h 0), some cV, none, none, none, none, none, none, none, none, none, none, none, none, none] (mkG (feO (ns.take 60) 0) cI []) := by
  have hs : szOk (iD ns).length = true := szOk_lt (by rw [iD_len]; omega)
  have hs2 : szOk (iD (ns.take 60)).length = true := szOk_lt (by rw [iD_len, List.length_take]; omega)
  have hy : (iD ns).take (60 : Int).toNat = iD (ns.take 60) := by simp [iD, List.map_take]
  have h1 : TE (cx2 w base) (n + 6) (scOf fd278 ls278 B) (tupE 0 (bd278.getD 0 (.Pass default))) [some (.d (.list (iD ns))), none, none, none, none, none, none, none, none, none, none, none, none, none, none, none] [] (.h 0) [some (.d (.list (iD ns))), none, none, none, none, none, none, none, none, none, none, none, none, none, none, none] [feO (ns.take 60) 0] := by
    have hne : ("cells" : Str) ≠ ("at" : Str) := by decide
    refine' T_dictS (G' := []) hne ((TO_list (bq ?_ ?_) ?_ (q_to ?_ ?_ hs (by decide) hy) hs2).te rfl) ?_
    repeat' (first  | k_upd)
  have h2 : TE (cx2 w base) (n + 6) (scOf fd278 ls278 B) (tupE 1 (bd278.getD 0 (.Pass default))) [some (.d (.list (iD ns))), none, none, none, none, none, none, none, none, none, none, none, none, none, none, none] [feO (ns.take 60) 0] cV [some (.d (.list (iD ns))), none, none, none, none, none, none, none, none, none, none, none, none, none, none, none] (mkG (feO (ns.take 60) 0) cI []) :=
    T_mkC (G := [feO (ns.take 60) 0]) rfl (cls2C _) (fn136 w base) rfl
  refine' s_asg2 ?_ ?_ ?_ ?_ h1.tw h2.tw ?_ ?_ ?_ ?_ ?_
  repeat' (first  | k_upd)
theorem law2 (hc : cells.length ≤ 63) {A0 : Option V} : ∃ m, (m = 3 ∨ m = 4) ∧ ∀ B : Heap, TS (cx2 w base) (n + 6) (scOf fd278 ls278 B) (bd278.getD 1 (.Pass default)) [A0, some (.h 0), some cV, none, none, none, none, none, none, none, none, none, none, none, none, none] (mkG (feO cells 0) cI []) .next [A0, some (.h 0), some cV, none, some (insV m), none, none, none, none, none, none, none, none, none, none, none] (mkG (feO cells 1) (cIn m cI) []) := by
  obtain ⟨d, hd, e1⟩ := draw_c (cells := cells) (k := 0) (m := 2) (by omega) hc (by omega)
  have e1' : CallOk (cx2 w base) (n + 6) 239 [.h 0, .d (.int 2)] (mkG (feO cells 0) cI []) (.d (.int d)) (mkG (feO cells 1) cI []) := e1 w base (n + 5) cI []
  have hm : 3 + d = 3 ∨ 3 + d = 4 := by omega
  refine ⟨3 + d, hm, fun B => ?_⟩
  have p : binI .add 3 (d : Int) = some ((3 + d : Nat) : Int) := by
    show some (3 + (d : Int)) = _
    rw [Int.natCast_add]; rfl
  have e9 : itemsV (.rng 0 ((3 + d : Nat) : Int)) = some ((List.range (3 + d)).map fun i => .int (i : Nat)) := itemsV_rng (by omega)
  have hl : (List.range' cI.gs.length (3 + d)).map (fun i => PyData.int ((i : Nat) : Int)) = insP (3 + d) := by
    have : d = 0 ∨ d = 1 := by omega
    rcases this with rfl | rfl <;> rfl
  have key : ∀ stp : PyData → List O → List PyData → List O → Prop, (∀ x (c : Ci), c.gs.length < 1000 → stp x (mkG (feO cells 1) c []) [.int c.gs.length] (mkG (feO cells 1) (c.add "input" []) [])) →
      Steps stp ((List.range (3 + d)).map fun i => .int (i : Nat)) (mkG (feO cells 1) cI []) (insP (3 + d)) (mkG (feO cells 1) (cIn (3 + d) cI) []) := fun stp hs => by
    have := in_steps (f := feO cells 1) (r := []) (stp := stp) ((List.range (3 + d)).map fun i => .int (i : Nat)) cI (by rw [List.length_map, List.length_range]; show 2 + _ < _; omega) hs
    rw [List.length_map, List.length_range, hl] at this
    exact this
  refine' s_comp ?_ ?_ (core1 (own := 1) ?_ (T_range1 (bq ?_ ?_) ?_ (q_bin ?_ ?_ ?_ p)) e9 ?_ (fun B => rfl) (fun B => .inl rfl) ?_ ?_ (szI hm)) ?_ ?_ ?_
  repeat' (first | (with_reducible exact e1') | k_upd)
  refine key _ fun x c hc => ⟨[A0.map ro, some (.h 0), some cV, none, none, none, none, none, none, none, none, none, none, none, none, none, some (.d x)], _, rfl, fun B' => ?_, rfl⟩
  have e := new_input_c (w := w) (base := base) (n := n + 4) (f := feO cells 1) (r := []) (c := c) (by omega)
  repeat' (first | (with_reducible exact e) | k_upd)
theorem law3 {m : Nat} (hm : m = 3 ∨ m = 4) {A0 : Option V} {B : Heap} : TS (cx2 w base) (n + 6) (scOf fd278 ls278 B) (bd278.getD 2 (.Pass default)) [A0, some (.h 0), some cV, none, some (insV m), none, none, none, none, none, none, none, none, none, none, none] G .next [A0, some (.h 0), some cV, none, some (insV m), some (.ol (insP m)), none, none, none, none, none, none, none, none, none, none] G := by
  refine' s_asgO ?_ ?_ ?_ (TO_list (bq ?_ ?_) ?_ ?_ (szI hm)) ?_
  repeat' (first  | k_upd)
theorem law4 (hc : cells.length ≤ 63) {m : Nat} (hm : m = 3 ∨ m = 4) {A0 : Option V} : ∃ c gates k y3 y6, (∀ B : Heap, TS (cx2 w base) (n + 6) (scOf fd278 ls278 B) (bd278.getD 3 (.Pass default)) [A0, some (.h 0), some cV, none, some (insV m), some (.ol (insP m)), none, none, none, none, none, none, none, none, none, none] (mkG (feO cells 1) (cIn m cI) []) .next [A0, some (.h 0), some cV, y3, some (insV m), some (.ol (iD gates)), y6, none, none, none, none, none, none, none, none, none] (mkG (feO cells k) c [])) ∧
      CM m c ∧ (∀ g ∈ gates, lit2 c.gs.length g) ∧ gates.length ≤ 10 ∧ k ≤ 50 ∧ c.gs.length ≤ 24 ∧ c.kn.length ≤ 18 := by
  obtain ⟨d, hd, e1⟩ := draw_c (cells := cells) (k := 1) (m := 4) (by omega) hc (by omega)
  have e1' : CallOk (cx2 w base) (n + 6) 239 [.h 0, .d (.int 4)] (mkG (feO cells 1) (cIn m cI) []) (.d (.int d)) (mkG (feO cells 2) (cIn m cI) []) := e1 w base (n + 5) _ []
  obtain ⟨cm, cl, ck⟩ := cm_start hm
  have p : binI .add 3 (d : Int) = some ((3 + d : Nat) : Int) := by
    show some (3 + (d : Int)) = _
    rw [Int.natCast_add]; rfl
  have e9 : itemsV (.rng 0 ((3 + d : Nat) : Int)) = some ((List.range (3 + d)).map fun i => .int (i : Nat)) := itemsV_rng (by omega)
  have hg0 : ∀ g ∈ nI (inpL m), lit2 (cIn m cI).gs.length g := fun g hg => by
    obtain ⟨a, ha, rfl⟩ := List.mem_map.mp hg
    obtain ⟨i, hi, rfl⟩ := List.mem_map.mp ha
    have := List.mem_range.mp hi
    rw [cl]
    exact ⟨by show 2 ≤ i + 2; omega, by show i + 2 < _; omega⟩
  have hgl : (nI (inpL m)).length = m := by rw [nI_len]; simp [inpL]
  have hxl : ((List.range (3 + d)).map fun i => PyData.int (i : Nat)).length = 3 + d := by rw [List.length_map, List.length_range]
  obtain ⟨c', gates', k', y3', y6', e, q1, q2, q3, q4, q5, q6⟩ := lap_loop (w := w) (base := base) (n := n) (r := []) hc (A0 := A0) (A4 := some (insV m)) ((List.range (3 + d)).map fun i => .int (i : Nat)) (cIn m cI) (nI (inpL m)) 2 none none cm hg0 (by omega) (by rw [hxl]; omega) (by rw [hxl]; omega) (by rw [hxl]; omega) (by rw [ck, hxl]; simp; omega)
  rw [hxl] at q3 q4 q5 q6
  rw [ck] at q6
  simp only [List.length_nil] at q6
  refine ⟨c', gates', k', y3', y6', fun B => ?_, q1, q2, by omega, by omega, by omega, by omega⟩
  refine' s_for ?_ ?_ (T_range1 (bq ?_ ?_) ?_ (q_bin ?_ ?_ ?_ p)) e9 (e B) ?_
  repeat' (first | (with_reducible exact e1') | k_upd)
end
section
open PySem PySem.W
variable {w : World} {base : Heap} {n : Nat} {c : Ci} {r : List O} {G : List O} {f : O} {cells : List Int}
noncomputable def isAnd (c : Ci) (g : Int) : Bool := match c.gs[g.natAbs]? with
  | some x => decide (x.1 = ("and" : Str))
  | none => false
theorem law5 {m k : Nat} (hm : m = 3 ∨ m = 4) (cm : CM m c) {gates : List Int} (hg : ∀ g ∈ gates, lit2 c.gs.length g) (hgl : gates.length ≤ 10) (hl : c.gs.length ≤ 24) (hkl : c.kn.length ≤ 18) {A0 y3 y6 : Option V} :
    ∃ c' able, (∀ B : Heap, TS (cx2 w base) (n + 6) (scOf fd278 ls278 B) (bd278.getD 4 (.Pass default)) [A0, some (.h 0), some cV, y3, some (insV m), some (.ol (iD gates)), y6, none, none, none, none, none, none, none, none, none] (mkG (feO cells k) c []) .next [A0, some (.h 0), some cV, y3, some (insV m), none, y6, some (.d (.list (iD able))), none, none, none, none, none, none, none, none] (mkG (feO cells k) c' [])) ∧
      CM m c' ∧ (∀ g ∈ able, litC c' g) ∧ 0 < able.length ∧ able.length ≤ 11 ∧ c'.gs.length ≤ 25 ∧ c'.kn.length ≤ 19 := by
  have wc := cm.w
  have h2 : litC c 2 := ⟨by decide, by have := (cm.inp 2).mpr (by omega); exact (List.getElem?_eq_some_iff.mp this).1⟩
  have h3 : litC c (-3) := litC.neg (g := 3) ⟨by decide, by have := (cm.inp 3).mpr (by omega); exact (List.getElem?_eq_some_iff.mp this).1⟩
  have ok := ao2 wc h2 h3
  have eb := both_c (w := w) (base := base) (n := n + 3) (f := feO cells k) (r := []) (c := c) 2 (-3) (by omega) (by omega)
  have l1 := ok.len
  have l2 := ok.kln
  generalize hv : (allOf c [2, -3]).1 = v at *
  generalize hc' : (allOf c [2, -3]).2 = c' at *
  have hfl := List.length_filter_le (isAnd c) gates
  refine ⟨c', (gates.filter (isAnd c)).map (fun p => (p.natAbs : Int)) ++ [v], fun B => ?_, cm.step ok, ?_, by simp, by simp; omega, by omega, by omega⟩
  · have i0 : ∀ G : List O, idxG G (.int 0) (insV m) = some (.int 2) := fun G => by rcases hm with rfl | rfl <;> rfl
    have i1 : ∀ G : List O, idxG G (.int 1) (insV m) = some (.int 3) := fun G => by rcases hm with rfl | rfl <;> rfl
    have e1 : ((gates.filter (isAnd c)).map fun p => PyData.int (p.natAbs : Int)) = iD ((gates.filter (isAnd c)).map fun p => (p.natAbs : Int)) := by simp [iD]
    have es : szOk (iD ((gates.filter (isAnd c)).map fun p => (p.natAbs : Int))).length = true := szOk_lt (by rw [iD_len, List.length_map]; omega)
    have es2 : szOk ((iD ((gates.filter (isAnd c)).map fun p => (p.natAbs : Int))).length + [PyData.int v].length) = true := szOk_lt (by rw [iD_len, List.length_map]; simp; omega)
    have ea : some (V.d (.list (iD ((gates.filter (isAnd c)).map fun p => (p.natAbs : Int)) ++ [.int v]))) = some (.d (.list (iD ((gates.filter (isAnd c)).map (fun p => (p.natAbs : Int)) ++ [v])))) := by rw [iD_app]; rfl
    have hit : itemsV (.d (.list (iD gates))) = some (iD gates) := rfl
    rw [← ea]
    have hmv : mvF [A0, some (.h 0), some cV, y3, some (insV m), some (.ol (iD gates)), y6, none, none, none, none, none, none, none, none, none] 5 (.ol (iD gates)) = some (.d (.list (iD gates)), [A0, some (.h 0), some cV, y3, some (insV m), none, y6, none, none, none, none, none, none, none, none, none]) := rfl
    refine' s_asg ?_ ?_ ?_ (q_addL (q_comp (core2 (own := 1) (G' := mkG (feO cells k) c []) ?_ (q_name ?_ ?_ hmv) hit ?_ (fun B => rfl) (fun B => .inl rfl) ?_ ?_ es) ?_ ?_) (q_lst (TL_cons ?_ ?_ TL_nil) ?_) es2) ?_
    repeat' (first | (with_reducible exact i0 _) | (with_reducible exact i1 _) | (with_reducible exact eb) | k_upd)
    rw [← e1]
    refine steps_if (g := PyData.int) (h := fun p => PyData.int (p.natAbs : Int)) (q := isAnd c) gates fun p hp => ?_
    have hpl := (hg p hp).2
    obtain ⟨kd, ps, hk, hcs⟩ := wf_kind wc hpl
    have k1 := kind_c (w := w) (base := base) (n := n + 5) (f := feO cells k) (r := []) (g := p) hk (by omega)
    have hA : isAnd c p = decide (kd = ("and" : Str)) := by unfold isAnd; rw [hk]
    have hb : eqD (.str kd) (.str ("and" : Str)) = some (isAnd c p) := by
      rw [hA]
      rcases hcs with rfl | ⟨rfl | rfl | rfl, _⟩
      · exact eq_and
      · exact eq_ia
      · exact eq_ta
      · exact eq_ea
    cases hq : isAnd c p
    · rw [hq] at hb
      rw [if_neg (by decide)]
      refine ⟨[A0.map ro, some (.h 0), some cV, y3.map ro, some (insV m), none, y6.map ro, none, none, none, none, none, none, none, none, none, some (.d (.int p))], false, _, rfl, fun B' => ?_, .f rfl rfl rfl⟩
      repeat' (first | (with_reducible exact k1) | (with_reducible exact hb) | k_upd)
    · rw [hq] at hb
      rw [if_pos rfl]
      refine ⟨[A0.map ro, some (.h 0), some cV, y3.map ro, some (insV m), none, y6.map ro, none, none, none, none, none, none, none, none, none, some (.d (.int p))], true, mkG (feO cells k) c [], rfl, fun B' => ?_, .t _ rfl (fun B' => ?_) rfl⟩
      repeat' (first | (with_reducible exact k1) | (with_reducible exact hb) | k_upd)
  · intro g hgm
    rcases List.mem_append.mp hgm with q | q
    · obtain ⟨p, hp, rfl⟩ := List.mem_map.mp q
      have := hg p ((List.mem_filter.mp hp).1)
      have xl := ok.x.len
      exact ⟨by have := this.1; show 1 ≤ p.natAbs; omega, by have := this.2; show p.natAbs < _; omega⟩
    · have : g = v := by simpa using q
      rw [this]; exact ok.lit
theorem law6 (hc : cells.length ≤ 63) {m k : Nat} (hm : m = 3 ∨ m = 4) {able : List Int} (h0 : 0 < able.length) (hal : able.length ≤ 11) (hk : k ≤ 50) {A0 y3 y6 : Option V} :
    ∃ g ∈ able, ∀ B : Heap, TS (cx2 w base) (n + 6) (scOf fd278 ls278 B) (bd278.getD 5 (.Pass default)) [A0, some (.h 0), some cV, y3, some (insV m), none, y6, some (.d (.list (iD able))), none, none, none, none, none, none, none, none] (mkG (feO cells k) c []) .next [A0, some (.h 0), some cV, y3, some (insV m), none, some (.d (.int g)), some (.d (.list (iD able))), some (tV (insP m)), none, none, none, none, none, none, none] (mkG (feO cells (k + 1)) c (rS [])) := by
  obtain ⟨d, hd, e1⟩ := draw_c (cells := cells) (k := k) (m := able.length) h0 hc (by omega)
  have e1' := e1 w base (n + 5) c (rS [])
  refine ⟨able[able.length - 1 - d], List.getElem_mem _, fun B => ?_⟩
  have hi : ∀ G : List O, idxG G (.int (-1 - (d : Int))) (.d (.list (iD able))) = some (.int able[able.length - 1 - d]) := fun G => by
    show idxL (iD able) (-1 - (d : Int)) = _
    unfold idxL pos?
    rw [if_pos (by omega), if_neg (by omega), if_pos (by rw [iD_len]; omega)]
    simp only [Option.bind_some]
    have : (-1 - (d : Int) + ((iD able).length : Int)).toNat = able.length - 1 - d := by rw [iD_len]; omega
    rw [this]
    have hlt : able.length - 1 - d < able.length := by omega
    simp [iD, hlt]
  have el : ∀ G : List O, lenG G (.d (.list (iD able))) = some able.length := fun G => by
    show (if szOk (iD able).length then some (iD able).length else none) = _
    rw [szOk_lt (by rw [iD_len]; omega), iD_len]; rfl
  have p : binI .sub (-1) (d : Int) = some (-1 - (d : Int)) := rfl
  generalize able[able.length - 1 - d] = g at *
  have h1 : TE (cx2 w base) (n + 6) (scOf fd278 ls278 B) (tupE 0 (bd278.getD 5 (.Pass default))) [A0, some (.h 0), some cV, y3, some (insV m), none, y6, some (.d (.list (iD able))), none, none, none, none, none, none, none, none] (mkG (feO cells k) c []) (tV (insP m)) [A0, some (.h 0), some cV, y3, some (insV m), none, y6, some (.d (.list (iD able))), none, none, none, none, none, none, none, none] (mkG (feO cells k) c (rS [])) := by
    refine' T_mkT (kc := 1) (pc := 2) (mc := 3) (xs := insP m) (G' := mkG (feO cells k) c []) rfl (cls2T _) (fn35 w base) ?_ ?_ ?_ ?_ ?_ (fun B => ⟨rfl, by decide, blt2 _ _ rfl, rfl⟩) (szI hm)
    repeat' (first  | k_upd)
  have h2 : TE (cx2 w base) (n + 6) (scOf fd278 ls278 B) (tupE 1 (bd278.getD 5 (.Pass default))) [A0, some (.h 0), some cV, y3, some (insV m), none, y6, some (.d (.list (iD able))), none, none, none, none, none, none, none, none] (mkG (feO cells k) c (rS [])) (.d (.int g)) [A0, some (.h 0), some cV, y3, some (insV m), none, y6, some (.d (.list (iD able))), none, none, none, none, none, none, none, none] (mkG (feO cells (k + 1)) c (rS [])) := by
    refine' q_idxv ?_ (q_bin ?_ ?_ ?_ p) ?_ ?_ (hi _) ?_
    repeat' (first | (with_reducible exact e1') | (with_reducible exact el _) | k_upd)
  refine' s_asg2 ?_ ?_ ?_ ?_ h1.tw h2.tw ?_ ?_ ?_ ?_ ?_
  repeat' (first  | k_upd)
theorem law7 (hc : cells.length ≤ 63) {m k : Nat} (hm : m = 3 ∨ m = 4) (hk : k ≤ 60) {A0 A3 A5 A6 A7 A8 : Option V} :
    ∃ t : Nat, t < m ∧ ∀ B : Heap, TS (cx2 w base) (n + 6) (scOf fd278 ls278 B) (bd278.getD 6 (.Pass default)) [A0, some (.h 0), some cV, A3, some (insV m), A5, A6, A7, A8, none, none, none, none, none, none, none] (mkG (feO cells k) c r) .next [A0, some (.h 0), some cV, A3, some (insV m), A5, A6, A7, A8, some (.d (.int t)), none, none, none, none, none, none] (mkG (feO cells (k + 1)) c r) := by
  obtain ⟨d, hd, e1⟩ := draw_c (cells := cells) (k := k) (m := m) (by omega) hc (by omega)
  have e1' := e1 w base (n + 5) c r
  refine ⟨d, hd, fun B => ?_⟩
  have el : ∀ G : List O, lenG G (insV m) = some m := fun G => by
    show (if szOk (insP m).length then some (insP m).length else none) = _
    rw [szI hm]
    show some (iD (nI (inpL m))).length = _
    rw [iD_len, nI_len]; simp [inpL]
  refine' s_asg ?_ ?_ ?_ ?_ ?_
  repeat' (first | (with_reducible exact e1') | (with_reducible exact el _) | k_upd)
theorem law_c (ns : List Int) (h : ns.length ≤ 63) : ∃ G', CallOk (cx2 w base) (n + 7) 278 [.d (.list (iD ns))] [] (.d (.bool true)) G' := by
  have hc : (ns.take 60).length ≤ 63 := by rw [List.length_take]; omega
  obtain ⟨m, hm, e2⟩ := law2 (w := w) (base := base) (n := n) hc (A0 := some (.d (.list (iD ns))))
  obtain ⟨c, gates, k, y3, y6, e4, cm, hg, b1, b2, b3, b4⟩ := law4 (w := w) (base := base) (n := n) hc hm (A0 := some (.d (.list (iD ns))))
  obtain ⟨c', able, e5, cm', ha, b5, b6, b7, b8⟩ := law5 (w := w) (base := base) (n := n) (k := k) (cells := ns.take 60) hm cm hg b1 b3 b4 (A0 := some (.d (.list (iD ns)))) (y3 := y3) (y6 := y6)
  obtain ⟨g, hgm, e6⟩ := law6 (w := w) (base := base) (n := n) (c := c') (k := k) hc hm b5 b6 b2 (A0 := some (.d (.list (iD ns)))) (y3 := y3) (y6 := y6)
  obtain ⟨t, ht, e7⟩ := law7 (w := w) (base := base) (n := n) (c := c') (k := k + 1) (r := rS []) hc hm (by omega) (A0 := some (.d (.list (iD ns)))) (A3 := y3) (A5 := none) (A6 := some (.d (.int g))) (A7 := some (.d (.list (iD able)))) (A8 := some (tV (insP m)))
  have li : LI m c' g [] := ⟨cm', ha g hgm, by
    have hx := nodup_len (g.natAbs + 1) (undL_nodup c' g.natAbs) fun x hx => by have := ((mem_undL cm'.w).mp hx).le cm'.w; omega
    have := (ha g hgm).2
    omega, .nil⟩
  have hlen : ((inpL m).drop t ++ (inpL m).take t).length = m := by simp [inpL]; omega
  have hmem : ∀ x, x ∈ (inpL m).drop t ++ (inpL m).take t ↔ 2 ≤ x ∧ x < m + 2 := fun x => by
    have : x ∈ (inpL m).drop t ++ (inpL m).take t ↔ x ∈ inpL m := by
      conv => rhs; rw [← List.take_append_drop t (inpL m)]
      rw [List.mem_append, List.mem_append]
      exact Or.comm
    rw [this]
    unfold inpL
    rw [List.mem_map]
    constructor
    · rintro ⟨i, hi, rfl⟩
      have := List.mem_range.mp hi
      omega
    · rintro ⟨q1, q2⟩
      exact ⟨x - 2, List.mem_range.mpr (by omega), by omega⟩
  obtain ⟨k', c2, g', sup', z10, z11, z12, z13, z14, z15, e8, li', hno⟩ := main_loop (w := w) (base := base) (n := n) hm hc (A0 := some (.d (.list (iD ns)))) (A3 := y3) (A7 := some (.d (.list (iD able)))) (A9 := some (.d (.int t)))
    ((inpL m).drop t ++ (inpL m).take t) c' g [] (k + 2) none none none none none none li (fun y hy hn => absurd ((hmem y).mpr ((cm'.inp y).mp hy)) hn) (fun x hx => (hmem x).mp hx) (by omega) (by omega) (by omega)
  have hg1 : (g'.natAbs : Int) = 1 := by
    have h1 := li'.lit.1
    by_cases q : 2 ≤ g'.natAbs
    · obtain ⟨y, q1, q2⟩ := has_input li'.cm.w _ g'.natAbs (Nat.lt_succ_self _) q li'.lit.2
      exact absurd q2 (hno y q1)
    · omega
  have es : szOk (insP m).length = true := szI hm
  refine ⟨mkG (feO (ns.take 60) k') c2 (rS sup'), ?_⟩
  refine q_call (Fs := [some (.d (.list (iD ns))), none, none, none, none, none, none, none, none, none, none, none, none, none, none, none]) (fn278 w base) rfl rfl fun B => ?_
  have s1 : (insP m).drop (t : Int).toNat = iD (nI ((inpL m).drop t)) := by simp [iD, nI, List.map_drop]
  have s2 : (insP m).take (t : Int).toNat = iD (nI ((inpL m).take t)) := by simp [iD, nI, List.map_take]
  have s3 : szOk ((iD (nI ((inpL m).drop t))).length + (iD (nI ((inpL m).take t))).length) = true := szOk_lt (by simp [iD, nI, inpL]; omega)
  have hit : itemsV (.d (.list (iD (nI ((inpL m).drop t)) ++ iD (nI ((inpL m).take t))))) = some (iD (nI ((inpL m).drop t ++ (inpL m).take t))) := by rw [nI_app, iD_app]; rfl
  have e8' : TS (cx2 w base) (n + 6) (scOf fd278 ls278 B) (bd278.getD 7 (.Pass default)) [some (.d (.list (iD ns))), some (.h 0), some cV, y3, some (insV m), none, some (.d (.int g)), some (.d (.list (iD able))), some (tV (insP m)), some (.d (.int t)), none, none, none, none, none, none] (mkG (feO (ns.take 60) (k + 1 + 1)) c' (rS [])) .next [some (.d (.list (iD ns))), some (.h 0), some cV, y3, some (insV m), none, some (.d (.int g')), some (.d (.list (iD able))), some (tV (insP m)), some (.d (.int t)), z10, z11, z12, z13, z14, z15] (mkG (feO (ns.take 60) k') c2 (rS sup')) := by
    refine' s_for ?_ ?_ (q_addL (q_from ?_ ?_ es ?_ s1) (q_to ?_ ?_ es ?_ s2) s3) hit (e8 B) ?_
    repeat' (first | exact Int.natCast_nonneg _ | k_upd)
  have q : eqD (.int (g'.natAbs : Int)) (.int 1) = some true := by
    have := eqD_int (g'.natAbs : Int) 1
    rw [hg1] at this ⊢
    exact this
  apply Exists.intro
  refine' TSs_cons (law1 ns h) (TSs_cons (e2 B) (TSs_cons (law3 hm) (TSs_cons (e4 B) (TSs_cons (e5 B) (TSs_cons (e6 B) (TSs_cons (e7 B) (TSs_cons e8' (s_ret (S_ret ?_)))))))))
  repeat' (first | (with_reducible exact q) | k_upd)
theorem law_rr0084_02 : PySem.Challenge.rw_rr0084_02.Holds := join2 fun w base ns h => law_c (n := 25) ns h
end
end Mine
theorem PySem.Challenge.cw_rr0084_02_holds : PySem.Challenge.rw_rr0084_02.Holds :=
  Mine.law_rr0084_02
