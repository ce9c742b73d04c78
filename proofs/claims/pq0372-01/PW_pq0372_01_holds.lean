import PyProof.Rows.All
import Wide.All
import OpenK.KSplit
import OpenK.KNot
import OpenK.KApp
import KE.KItem
import KE.KPop
import Wide.FinOn
import KE.KAnyBase
import KE.KDictNew
import PyProof.MinMaxWalk
import PyProof.EnumMake
import KE.KDictAnyGet
import PySem.Challenge.RW_pq0372_01
open PySem PySem.W PySem.Calls PyProof.Rows
set_option Elab.async false
set_option maxRecDepth 100000
set_option maxHeartbeats 8000000
set_option linter.unusedVariables false
set_option linter.unusedSimpArgs false
set_option compiler.extract_closed false
namespace Mine
/-! ## the head: the text's own objects, and the run of its top, looked at once -/
noncomputable def stAt (i : Nat) : Stmt := Challenge.pw_pq0372_01.main.body.getD i default
noncomputable def inAt (i j : Nat) : Stmt := match stAt i with | .ClassDef _ _ _ b .. => b.getD j default | _ => default
noncomputable def fnO (st : Stmt) (q : PySem.Str) (m : Value) (c : Addr) : Obj := match st with
  | .FunctionDef n ps b _ _ _ sc _ _ _ => { cls := .type "function", data := .func { name := n, qualname := q, params := ps, body := .stmts b, scope := sc, globals := 3, closure := [], defaults := .none, kwdefaults := .none, pyModule := m, code := .ref c } }
  | _ => default
noncomputable def f21 : { o : Obj // fnO (stAt 0) (Str.ofString "_wall") (Value.str (Str.ofString "__main__") 164) 20 = o } := ⟨_, by conv => lhs; whnf⟩
noncomputable def f35 : { o : Obj // fnO (inAt 2 0) (Str.ofString "Brancher.__init__") (Value.str (Str.ofString "fdsolve.search") 194) 34 = o } := ⟨_, by conv => lhs; whnf⟩
noncomputable def f42 : { o : Obj // fnO (inAt 2 1) (Str.ofString "Brancher.rank") (Value.str (Str.ofString "fdsolve.search") 194) 41 = o } := ⟨_, by conv => lhs; whnf⟩
noncomputable def f49 : { o : Obj // fnO (inAt 2 2) (Str.ofString "Brancher.next_var") (Value.str (Str.ofString "fdsolve.search") 194) 48 = o } := ⟨_, by conv => lhs; whnf⟩
noncomputable def f56 : { o : Obj // fnO (inAt 2 3) (Str.ofString "Brancher.median") (Value.str (Str.ofString "fdsolve.search") 194) 55 = o } := ⟨_, by conv => lhs; whnf⟩
noncomputable def f63 : { o : Obj // fnO (inAt 2 4) (Str.ofString "Brancher.choose") (Value.str (Str.ofString "fdsolve.search") 194) 62 = o } := ⟨_, by conv => lhs; whnf⟩
noncomputable def f77 : { o : Obj // fnO (stAt 4) (Str.ofString "least") (Value.str (Str.ofString "fdsolve.domains") 272) 76 = o } := ⟨_, by conv => lhs; whnf⟩
noncomputable def f84 : { o : Obj // fnO (stAt 5) (Str.ofString "greatest") (Value.str (Str.ofString "fdsolve.domains") 272) 83 = o } := ⟨_, by conv => lhs; whnf⟩
noncomputable def f89 : { o : Obj // fnO (stAt 6) (Str.ofString "size") (Value.str (Str.ofString "fdsolve.domains") 272) 88 = o } := ⟨_, by conv => lhs; whnf⟩
noncomputable def f96 : { o : Obj // fnO (stAt 8) (Str.ofString "next_from") (Value.str (Str.ofString "fdsolve.domains") 272) 95 = o } := ⟨_, by conv => lhs; whnf⟩
noncomputable def f103 : { o : Obj // fnO (stAt 9) (Str.ofString "has") (Value.str (Str.ofString "fdsolve.domains") 272) 102 = o } := ⟨_, by conv => lhs; whnf⟩
noncomputable def f108 : { o : Obj // fnO (stAt 11) (Str.ofString "up_to") (Value.str (Str.ofString "fdsolve.domains") 272) 107 = o } := ⟨_, by conv => lhs; whnf⟩
noncomputable def f113 : { o : Obj // fnO (stAt 12) (Str.ofString "from_on") (Value.str (Str.ofString "fdsolve.domains") 272) 112 = o } := ⟨_, by conv => lhs; whnf⟩
noncomputable def f120 : { o : Obj // fnO (stAt 13) (Str.ofString "without") (Value.str (Str.ofString "fdsolve.domains") 272) 119 = o } := ⟨_, by conv => lhs; whnf⟩
noncomputable def f127 : { o : Obj // fnO (stAt 14) (Str.ofString "meet") (Value.str (Str.ofString "fdsolve.domains") 272) 126 = o } := ⟨_, by conv => lhs; whnf⟩
noncomputable def f134 : { o : Obj // fnO (stAt 15) (Str.ofString "negation") (Value.str (Str.ofString "fdsolve.domains") 272) 133 = o } := ⟨_, by conv => lhs; whnf⟩
noncomputable def f141 : { o : Obj // fnO (stAt 16) (Str.ofString "struck") (Value.str (Str.ofString "fdsolve.domains") 272) 140 = o } := ⟨_, by conv => lhs; whnf⟩
noncomputable def f148 : { o : Obj // fnO (stAt 17) (Str.ofString "said_of") (Value.str (Str.ofString "fdsolve.domains") 272) 147 = o } := ⟨_, by conv => lhs; whnf⟩
noncomputable def f162 : { o : Obj // fnO (inAt 19 0) (Str.ofString "Store.__init__") (Value.str (Str.ofString "fdsolve.store") 376) 161 = o } := ⟨_, by conv => lhs; whnf⟩
noncomputable def f169 : { o : Obj // fnO (inAt 19 1) (Str.ofString "Store.new_var") (Value.str (Str.ofString "fdsolve.store") 376) 168 = o } := ⟨_, by conv => lhs; whnf⟩
noncomputable def f176 : { o : Obj // fnO (inAt 19 2) (Str.ofString "Store.size") (Value.str (Str.ofString "fdsolve.store") 376) 175 = o } := ⟨_, by conv => lhs; whnf⟩
noncomputable def f183 : { o : Obj // fnO (inAt 19 3) (Str.ofString "Store.dom") (Value.str (Str.ofString "fdsolve.store") 376) 182 = o } := ⟨_, by conv => lhs; whnf⟩
noncomputable def f190 : { o : Obj // fnO (inAt 19 4) (Str.ofString "Store.initial") (Value.str (Str.ofString "fdsolve.store") 376) 189 = o } := ⟨_, by conv => lhs; whnf⟩
noncomputable def f197 : { o : Obj // fnO (inAt 19 5) (Str.ofString "Store.low") (Value.str (Str.ofString "fdsolve.store") 376) 196 = o } := ⟨_, by conv => lhs; whnf⟩
noncomputable def f204 : { o : Obj // fnO (inAt 19 6) (Str.ofString "Store.high") (Value.str (Str.ofString "fdsolve.store") 376) 203 = o } := ⟨_, by conv => lhs; whnf⟩
noncomputable def f211 : { o : Obj // fnO (inAt 19 7) (Str.ofString "Store.has") (Value.str (Str.ofString "fdsolve.store") 376) 210 = o } := ⟨_, by conv => lhs; whnf⟩
noncomputable def f218 : { o : Obj // fnO (inAt 19 8) (Str.ofString "Store.is_fixed") (Value.str (Str.ofString "fdsolve.store") 376) 217 = o } := ⟨_, by conv => lhs; whnf⟩
noncomputable def f225 : { o : Obj // fnO (inAt 19 9) (Str.ofString "Store.value") (Value.str (Str.ofString "fdsolve.store") 376) 224 = o } := ⟨_, by conv => lhs; whnf⟩
noncomputable def f232 : { o : Obj // fnO (inAt 19 10) (Str.ofString "Store.width") (Value.str (Str.ofString "fdsolve.store") 376) 231 = o } := ⟨_, by conv => lhs; whnf⟩
noncomputable def f239 : { o : Obj // fnO (inAt 19 11) (Str.ofString "Store.holds") (Value.str (Str.ofString "fdsolve.store") 376) 238 = o } := ⟨_, by conv => lhs; whnf⟩
noncomputable def f246 : { o : Obj // fnO (inAt 19 12) (Str.ofString "Store.enter") (Value.str (Str.ofString "fdsolve.store") 376) 245 = o } := ⟨_, by conv => lhs; whnf⟩
noncomputable def f253 : { o : Obj // fnO (inAt 19 13) (Str.ofString "Store.strike") (Value.str (Str.ofString "fdsolve.store") 376) 252 = o } := ⟨_, by conv => lhs; whnf⟩
noncomputable def f260 : { o : Obj // fnO (inAt 19 14) (Str.ofString "Store.decide") (Value.str (Str.ofString "fdsolve.store") 376) 259 = o } := ⟨_, by conv => lhs; whnf⟩
noncomputable def f267 : { o : Obj // fnO (inAt 19 15) (Str.ofString "Store.fail") (Value.str (Str.ofString "fdsolve.store") 376) 266 = o } := ⟨_, by conv => lhs; whnf⟩
noncomputable def f274 : { o : Obj // fnO (inAt 19 16) (Str.ofString "Store.push") (Value.str (Str.ofString "fdsolve.store") 376) 273 = o } := ⟨_, by conv => lhs; whnf⟩
noncomputable def f281 : { o : Obj // fnO (inAt 19 17) (Str.ofString "Store.pop") (Value.str (Str.ofString "fdsolve.store") 376) 280 = o } := ⟨_, by conv => lhs; whnf⟩
noncomputable def f288 : { o : Obj // fnO (inAt 19 18) (Str.ofString "Store.depth") (Value.str (Str.ofString "fdsolve.store") 376) 287 = o } := ⟨_, by conv => lhs; whnf⟩
noncomputable def f295 : { o : Obj // fnO (inAt 19 19) (Str.ofString "Store.changed") (Value.str (Str.ofString "fdsolve.store") 376) 294 = o } := ⟨_, by conv => lhs; whnf⟩
noncomputable def f309 : { o : Obj // fnO (stAt 21) (Str.ofString "_law_far") (Value.str (Str.ofString "law_pq0372_01") 571) 308 = o } := ⟨_, by conv => lhs; whnf⟩
noncomputable def f316 : { o : Obj // fnO (stAt 22) (Str.ofString "_law_draw") (Value.str (Str.ofString "law_pq0372_01") 571) 315 = o } := ⟨_, by conv => lhs; whnf⟩
noncomputable def f323 : { o : Obj // fnO (stAt 23) (Str.ofString "_law_ranges") (Value.str (Str.ofString "law_pq0372_01") 571) 322 = o } := ⟨_, by conv => lhs; whnf⟩
noncomputable def f328 : { o : Obj // fnO (stAt 24) (Str.ofString "_law_many") (Value.str (Str.ofString "law_pq0372_01") 571) 327 = o } := ⟨_, by conv => lhs; whnf⟩
noncomputable def f335 : { o : Obj // fnO (stAt 25) (Str.ofString "_law_is_half") (Value.str (Str.ofString "law_pq0372_01") 571) 334 = o } := ⟨_, by conv => lhs; whnf⟩
noncomputable def f340 : { o : Obj // fnO (stAt 26) (Str.ofString "_law_between") (Value.str (Str.ofString "law_pq0372_01") 571) 339 = o } := ⟨_, by conv => lhs; whnf⟩
noncomputable def f347 : { o : Obj // fnO (stAt 27) (Str.ofString "_law_wanted") (Value.str (Str.ofString "law_pq0372_01") 571) 346 = o } := ⟨_, by conv => lhs; whnf⟩
noncomputable def f354 : { o : Obj // fnO (stAt 28) (Str.ofString "_law_is_place_right") (Value.str (Str.ofString "law_pq0372_01") 571) 353 = o } := ⟨_, by conv => lhs; whnf⟩
noncomputable def f359 : { o : Obj // fnO (stAt 29) (Str.ofString "law") (Value.str (Str.ofString "law_pq0372_01") 571) 358 = o } := ⟨_, by conv => lhs; whnf⟩
noncomputable def KF (P : Params) : Frag :=
  (nat_lit 2, { cls := Value.none, data := Data.dict #[] }) ::
   (nat_lit 3, { cls := Value.type "dict", data := Data.dict #[{ hash := PyData.keyHash P (Str.ofString "__name__"), key := Value.str (Str.ofString "__name__") 165, val := Value.str (Str.ofString "law_pq0372_01") 571 }, { hash := PyData.keyHash P (Str.ofString "__doc__"), key := Value.str (Str.ofString "__doc__") 166, val := Value.none }, { hash := PyData.keyHash P (Str.ofString "__package__"), key := Value.str (Str.ofString "__package__") 167, val := Value.none }, { hash := PyData.keyHash P (Str.ofString "__loader__"), key := Value.str (Str.ofString "__loader__") 168, val := Value.builtin "__main__.__loader__#opaque" }, { hash := PyData.keyHash P (Str.ofString "__spec__"), key := Value.str (Str.ofString "__spec__") 169, val := Value.none }, { hash := PyData.keyHash P (Str.ofString "__annotations__"), key := Value.str (Str.ofString "__annotations__") 170, val := Value.ref 6 }, { hash := PyData.keyHash P (Str.ofString "__builtins__"), key := Value.str (Str.ofString "__builtins__") 171, val := Value.ref 4 }, { hash := PyData.keyHash P (Str.ofString "__file__"), key := Value.str (Str.ofString "__file__") 173, val := Value.str (Str.ofString "/claim/cut.py") 172 }, { hash := PyData.keyHash P (Str.ofString "__cached__"), key := Value.str (Str.ofString "__cached__") 174, val := Value.none }, { hash := PyData.keyHash P (Str.ofString "_wall"), key := Value.str (Str.ofString "_wall") 193, val := Value.ref 21 }, { hash := PyData.keyHash P (Str.ofString "Brancher"), key := Value.str (Str.ofString "Brancher") 271, val := Value.ref 66 }, { hash := PyData.keyHash P (Str.ofString "least"), key := Value.str (Str.ofString "least") 280, val := Value.ref 77 }, { hash := PyData.keyHash P (Str.ofString "greatest"), key := Value.str (Str.ofString "greatest") 287, val := Value.ref 84 }, { hash := PyData.keyHash P (Str.ofString "size"), key := Value.str (Str.ofString "size") 293, val := Value.ref 89 }, { hash := PyData.keyHash P (Str.ofString "size_domains"), key := Value.str (Str.ofString "size_domains") 294, val := Value.ref 89 }, { hash := PyData.keyHash P (Str.ofString "next_from"), key := Value.str (Str.ofString "next_from") 304, val := Value.ref 96 }, { hash := PyData.keyHash P (Str.ofString "has"), key := Value.str (Str.ofString "has") 312, val := Value.ref 103 }, { hash := PyData.keyHash P (Str.ofString "has_domains"), key := Value.str (Str.ofString "has_domains") 313, val := Value.ref 103 }, { hash := PyData.keyHash P (Str.ofString "up_to"), key := Value.str (Str.ofString "up_to") 319, val := Value.ref 108 }, { hash := PyData.keyHash P (Str.ofString "from_on"), key := Value.str (Str.ofString "from_on") 325, val := Value.ref 113 }, { hash := PyData.keyHash P (Str.ofString "without"), key := Value.str (Str.ofString "without") 333, val := Value.ref 120 }, { hash := PyData.keyHash P (Str.ofString "meet"), key := Value.str (Str.ofString "meet") 346, val := Value.ref 127 }, { hash := PyData.keyHash P (Str.ofString "negation"), key := Value.str (Str.ofString "negation") 356, val := Value.ref 134 }, { hash := PyData.keyHash P (Str.ofString "struck"), key := Value.str (Str.ofString "struck") 366, val := Value.ref 141 }, { hash := PyData.keyHash P (Str.ofString "said_of"), key := Value.str (Str.ofString "said_of") 375, val := Value.ref 148 }, { hash := PyData.keyHash P (Str.ofString "Store"), key := Value.str (Str.ofString "Store") 570, val := Value.ref 298 }, { hash := PyData.keyHash P (Str.ofString "_law_far"), key := Value.str (Str.ofString "_law_far") 578, val := Value.ref 309 }, { hash := PyData.keyHash P (Str.ofString "_law_draw"), key := Value.str (Str.ofString "_law_draw") 587, val := Value.ref 316 }, { hash := PyData.keyHash P (Str.ofString "_law_ranges"), key := Value.str (Str.ofString "_law_ranges") 600, val := Value.ref 323 }, { hash := PyData.keyHash P (Str.ofString "_law_many"), key := Value.str (Str.ofString "_law_many") 606, val := Value.ref 328 }, { hash := PyData.keyHash P (Str.ofString "_law_is_half"), key := Value.str (Str.ofString "_law_is_half") 616, val := Value.ref 335 }, { hash := PyData.keyHash P (Str.ofString "_law_between"), key := Value.str (Str.ofString "_law_between") 622, val := Value.ref 340 }, { hash := PyData.keyHash P (Str.ofString "_law_wanted"), key := Value.str (Str.ofString "_law_wanted") 637, val := Value.ref 347 }, { hash := PyData.keyHash P (Str.ofString "_law_is_place_right"), key := Value.str (Str.ofString "_law_is_place_right") 649, val := Value.ref 354 }, { hash := PyData.keyHash P (Str.ofString "law"), key := Value.str (Str.ofString "law") 655, val := Value.ref 359 }] 35 }) ::
   (nat_lit 20, { cls := Value.type "code", data := Data.fields #[Value.str (Str.ofString "_wall") 187, Value.str (Str.ofString "_wall") 188, Value.str (Str.ofString "/claim/cut.py") 189, Value.int 1 0, Value.int 1 0, Value.int 0 0, Value.int 0 0, Value.int 3 0, Value.ref 15, Value.bool true, Value.int 181 0, Value.ref 16, Value.none, Value.ref 17, Value.ref 18, Value.ref 19, Value.int 191 0, Value.int 1 0, Value.str (Str.ofString "/claim/cut.py") 192] }) ::
   (nat_lit 21, f21.1) ::
   (nat_lit 34, { cls := Value.type "code", data := Data.fields #[Value.str (Str.ofString "__init__") 208, Value.str (Str.ofString "Brancher.__init__") 209, Value.str (Str.ofString "/claim/cut.py") 210, Value.int 7 0, Value.int 4 0, Value.int 0 0, Value.int 0 0, Value.int 3 0, Value.ref 29, Value.bool true, Value.int 181 0, Value.ref 30, Value.none, Value.ref 31, Value.ref 32, Value.ref 33, Value.int 215 0, Value.int 7 0, Value.str (Str.ofString "/claim/cut.py") 216] }) ::
   (nat_lit 35, f35.1) ::
   (nat_lit 41, { cls := Value.type "code", data := Data.fields #[Value.str (Str.ofString "rank") 218, Value.str (Str.ofString "Brancher.rank") 219, Value.str (Str.ofString "/claim/cut.py") 220, Value.int 13 0, Value.int 3 0, Value.int 0 0, Value.int 0 0, Value.int 3 0, Value.ref 36, Value.bool true, Value.int 181 0, Value.ref 37, Value.none, Value.ref 38, Value.ref 39, Value.ref 40, Value.int 224 0, Value.int 13 0, Value.str (Str.ofString "/claim/cut.py") 225] }) ::
   (nat_lit 42, f42.1) ::
   (nat_lit 48, { cls := Value.type "code", data := Data.fields #[Value.str (Str.ofString "next_var") 227, Value.str (Str.ofString "Brancher.next_var") 228, Value.str (Str.ofString "/claim/cut.py") 229, Value.int 24 0, Value.int 2 0, Value.int 0 0, Value.int 0 0, Value.int 3 0, Value.ref 43, Value.bool true, Value.int 181 0, Value.ref 44, Value.none, Value.ref 45, Value.ref 46, Value.ref 47, Value.int 236 0, Value.int 24 0, Value.str (Str.ofString "/claim/cut.py") 237] }) ::
   (nat_lit 49, f49.1) ::
   (nat_lit 55, { cls := Value.type "code", data := Data.fields #[Value.str (Str.ofString "median") 239, Value.str (Str.ofString "Brancher.median") 240, Value.str (Str.ofString "/claim/cut.py") 241, Value.int 33 0, Value.int 3 0, Value.int 0 0, Value.int 0 0, Value.int 3 0, Value.ref 50, Value.bool true, Value.int 181 0, Value.ref 51, Value.none, Value.ref 52, Value.ref 53, Value.ref 54, Value.int 248 0, Value.int 33 0, Value.str (Str.ofString "/claim/cut.py") 249] }) ::
   (nat_lit 56, f56.1) ::
   (nat_lit 62, { cls := Value.type "code", data := Data.fields #[Value.str (Str.ofString "choose") 251, Value.str (Str.ofString "Brancher.choose") 252, Value.str (Str.ofString "/claim/cut.py") 253, Value.int 41 0, Value.int 2 0, Value.int 0 0, Value.int 0 0, Value.int 3 0, Value.ref 57, Value.bool true, Value.int 181 0, Value.ref 58, Value.none, Value.ref 59, Value.ref 60, Value.ref 61, Value.int 257 0, Value.int 41 0, Value.str (Str.ofString "/claim/cut.py") 258] }) ::
   (nat_lit 63, f63.1) ::
   (nat_lit 65, { cls := Value.type "dict", data := Data.dict #[{ hash := PyData.keyHash P (Str.ofString "__module__"), key := Value.str (Str.ofString "__module__") 203, val := Value.str (Str.ofString "fdsolve.search") 194 }, { hash := PyData.keyHash P (Str.ofString "__firstlineno__"), key := Value.str (Str.ofString "__firstlineno__") 207, val := Value.int 5 206 }, { hash := PyData.keyHash P (Str.ofString "__init__"), key := Value.str (Str.ofString "__init__") 217, val := Value.ref 35 }, { hash := PyData.keyHash P (Str.ofString "rank"), key := Value.str (Str.ofString "rank") 226, val := Value.ref 42 }, { hash := PyData.keyHash P (Str.ofString "next_var"), key := Value.str (Str.ofString "next_var") 238, val := Value.ref 49 }, { hash := PyData.keyHash P (Str.ofString "median"), key := Value.str (Str.ofString "median") 250, val := Value.ref 56 }, { hash := PyData.keyHash P (Str.ofString "choose"), key := Value.str (Str.ofString "choose") 259, val := Value.ref 63 }, { hash := PyData.keyHash P (Str.ofString "__static_attributes__"), key := Value.str (Str.ofString "__static_attributes__") 264, val := Value.ref 64 }, { hash := PyData.keyHash P (Str.ofString "__dict__"), key := Value.str (Str.ofString "__dict__") 266, val := Value.ref 67 }, { hash := PyData.keyHash P (Str.ofString "__weakref__"), key := Value.str (Str.ofString "__weakref__") 268, val := Value.ref 68 }, { hash := PyData.keyHash P (Str.ofString "__doc__"), key := Value.str (Str.ofString "__doc__") 269, val := Value.none }] 4 }) ::
   (nat_lit 66, { cls := Value.type "type", data := Data.cls { name := Str.ofString "Brancher", bases := [Value.type "object"], mro := [Value.ref 66, Value.type "object"], ns := 65, qualname := Str.ofString "Brancher" }, slots := #[none, none, some (Value.str (Str.ofString "Brancher") 196), some (Value.str (Str.ofString "Brancher") 204), some (Value.builtin "object.__new__"), some (Value.bool true)] }) ::
   (nat_lit 67, { cls := Value.type "getset_descriptor", data := Data.fields #[Value.str (Str.ofString "__dict__") 265, Value.ref 66, Value.builtin "function.__dict__", Value.builtin "function.__dict__#set"] }) ::
   (nat_lit 68, { cls := Value.type "getset_descriptor", data := Data.fields #[Value.str (Str.ofString "__weakref__") 267, Value.ref 66, Value.builtin "ExceptionGroup.__weakref__", Value.none] }) ::
   (nat_lit 76, { cls := Value.type "code", data := Data.fields #[Value.str (Str.ofString "least") 274, Value.str (Str.ofString "least") 275, Value.str (Str.ofString "/claim/cut.py") 276, Value.int 53 0, Value.int 1 0, Value.int 0 0, Value.int 0 0, Value.int 3 0, Value.ref 71, Value.bool true, Value.int 181 0, Value.ref 72, Value.none, Value.ref 73, Value.ref 74, Value.ref 75, Value.int 278 0, Value.int 53 0, Value.str (Str.ofString "/claim/cut.py") 279] }) ::
   (nat_lit 77, f77.1) ::
   (nat_lit 83, { cls := Value.type "code", data := Data.fields #[Value.str (Str.ofString "greatest") 281, Value.str (Str.ofString "greatest") 282, Value.str (Str.ofString "/claim/cut.py") 283, Value.int 55 0, Value.int 1 0, Value.int 0 0, Value.int 0 0, Value.int 3 0, Value.ref 78, Value.bool true, Value.int 181 0, Value.ref 79, Value.none, Value.ref 80, Value.ref 81, Value.ref 82, Value.int 285 0, Value.int 55 0, Value.str (Str.ofString "/claim/cut.py") 286] }) ::
   (nat_lit 84, f84.1) ::
   (nat_lit 88, { cls := Value.type "code", data := Data.fields #[Value.str (Str.ofString "size") 288, Value.str (Str.ofString "size") 289, Value.str (Str.ofString "/claim/cut.py") 290, Value.int 57 0, Value.int 1 0, Value.int 0 0, Value.int 0 0, Value.int 3 0, Value.ref 85, Value.bool true, Value.int 181 0, Value.ref 86, Value.none, Value.none, Value.none, Value.ref 87, Value.int 291 0, Value.int 57 0, Value.str (Str.ofString "/claim/cut.py") 292] }) ::
   (nat_lit 89, f89.1) ::
   (nat_lit 95, { cls := Value.type "code", data := Data.fields #[Value.str (Str.ofString "next_from") 295, Value.str (Str.ofString "next_from") 296, Value.str (Str.ofString "/claim/cut.py") 297, Value.int 60 0, Value.int 2 0, Value.int 0 0, Value.int 0 0, Value.int 3 0, Value.ref 90, Value.bool true, Value.int 181 0, Value.ref 91, Value.none, Value.ref 92, Value.ref 93, Value.ref 94, Value.int 302 0, Value.int 60 0, Value.str (Str.ofString "/claim/cut.py") 303] }) ::
   (nat_lit 96, f96.1) ::
   (nat_lit 102, { cls := Value.type "code", data := Data.fields #[Value.str (Str.ofString "has") 305, Value.str (Str.ofString "has") 306, Value.str (Str.ofString "/claim/cut.py") 307, Value.int 65 0, Value.int 2 0, Value.int 0 0, Value.int 0 0, Value.int 3 0, Value.ref 97, Value.bool true, Value.int 181 0, Value.ref 98, Value.none, Value.ref 99, Value.ref 100, Value.ref 101, Value.int 310 0, Value.int 65 0, Value.str (Str.ofString "/claim/cut.py") 311] }) ::
   (nat_lit 103, f103.1) ::
   (nat_lit 107, { cls := Value.type "code", data := Data.fields #[Value.str (Str.ofString "up_to") 314, Value.str (Str.ofString "up_to") 315, Value.str (Str.ofString "/claim/cut.py") 316, Value.int 68 0, Value.int 2 0, Value.int 0 0, Value.int 0 0, Value.int 3 0, Value.ref 104, Value.bool true, Value.int 181 0, Value.ref 105, Value.none, Value.none, Value.none, Value.ref 106, Value.int 317 0, Value.int 68 0, Value.str (Str.ofString "/claim/cut.py") 318] }) ::
   (nat_lit 108, f108.1) ::
   (nat_lit 112, { cls := Value.type "code", data := Data.fields #[Value.str (Str.ofString "from_on") 320, Value.str (Str.ofString "from_on") 321, Value.str (Str.ofString "/claim/cut.py") 322, Value.int 70 0, Value.int 2 0, Value.int 0 0, Value.int 0 0, Value.int 3 0, Value.ref 109, Value.bool true, Value.int 181 0, Value.ref 110, Value.none, Value.none, Value.none, Value.ref 111, Value.int 323 0, Value.int 70 0, Value.str (Str.ofString "/claim/cut.py") 324] }) ::
   (nat_lit 113, f113.1) ::
   (nat_lit 119, { cls := Value.type "code", data := Data.fields #[Value.str (Str.ofString "without") 326, Value.str (Str.ofString "without") 327, Value.str (Str.ofString "/claim/cut.py") 328, Value.int 72 0, Value.int 2 0, Value.int 0 0, Value.int 0 0, Value.int 3 0, Value.ref 114, Value.bool true, Value.int 181 0, Value.ref 115, Value.none, Value.ref 116, Value.ref 117, Value.ref 118, Value.int 331 0, Value.int 72 0, Value.str (Str.ofString "/claim/cut.py") 332] }) ::
   (nat_lit 120, f120.1) ::
   (nat_lit 126, { cls := Value.type "code", data := Data.fields #[Value.str (Str.ofString "meet") 334, Value.str (Str.ofString "meet") 335, Value.str (Str.ofString "/claim/cut.py") 336, Value.int 74 0, Value.int 2 0, Value.int 0 0, Value.int 0 0, Value.int 3 0, Value.ref 121, Value.bool true, Value.int 181 0, Value.ref 122, Value.none, Value.ref 123, Value.ref 124, Value.ref 125, Value.int 344 0, Value.int 74 0, Value.str (Str.ofString "/claim/cut.py") 345] }) ::
   (nat_lit 127, f127.1) ::
   (nat_lit 133, { cls := Value.type "code", data := Data.fields #[Value.str (Str.ofString "negation") 347, Value.str (Str.ofString "negation") 348, Value.str (Str.ofString "/claim/cut.py") 349, Value.int 85 0, Value.int 1 0, Value.int 0 0, Value.int 0 0, Value.int 3 0, Value.ref 128, Value.bool true, Value.int 181 0, Value.ref 129, Value.none, Value.ref 130, Value.ref 131, Value.ref 132, Value.int 354 0, Value.int 85 0, Value.str (Str.ofString "/claim/cut.py") 355] }) ::
   (nat_lit 134, f134.1) ::
   (nat_lit 140, { cls := Value.type "code", data := Data.fields #[Value.str (Str.ofString "struck") 357, Value.str (Str.ofString "struck") 358, Value.str (Str.ofString "/claim/cut.py") 359, Value.int 92 0, Value.int 2 0, Value.int 0 0, Value.int 0 0, Value.int 3 0, Value.ref 135, Value.bool true, Value.int 181 0, Value.ref 136, Value.none, Value.ref 137, Value.ref 138, Value.ref 139, Value.int 364 0, Value.int 92 0, Value.str (Str.ofString "/claim/cut.py") 365] }) ::
   (nat_lit 141, f141.1) ::
   (nat_lit 147, { cls := Value.type "code", data := Data.fields #[Value.str (Str.ofString "said_of") 367, Value.str (Str.ofString "said_of") 368, Value.str (Str.ofString "/claim/cut.py") 369, Value.int 99 0, Value.int 2 0, Value.int 0 0, Value.int 0 0, Value.int 3 0, Value.ref 142, Value.bool true, Value.int 181 0, Value.ref 143, Value.none, Value.ref 144, Value.ref 145, Value.ref 146, Value.int 373 0, Value.int 99 0, Value.str (Str.ofString "/claim/cut.py") 374] }) ::
   (nat_lit 148, f148.1) ::
   (nat_lit 161, { cls := Value.type "code", data := Data.fields #[Value.str (Str.ofString "__init__") 390, Value.str (Str.ofString "Store.__init__") 391, Value.str (Str.ofString "/claim/cut.py") 392, Value.int 107 0, Value.int 1 0, Value.int 0 0, Value.int 0 0, Value.int 3 0, Value.ref 156, Value.bool true, Value.int 181 0, Value.ref 157, Value.none, Value.ref 158, Value.ref 159, Value.ref 160, Value.int 394 0, Value.int 107 0, Value.str (Str.ofString "/claim/cut.py") 395] }) ::
   (nat_lit 162, f162.1) ::
   (nat_lit 168, { cls := Value.type "code", data := Data.fields #[Value.str (Str.ofString "new_var") 397, Value.str (Str.ofString "Store.new_var") 398, Value.str (Str.ofString "/claim/cut.py") 399, Value.int 117 0, Value.int 2 0, Value.int 0 0, Value.int 0 0, Value.int 3 0, Value.ref 163, Value.bool true, Value.int 181 0, Value.ref 164, Value.none, Value.ref 165, Value.ref 166, Value.ref 167, Value.int 402 0, Value.int 117 0, Value.str (Str.ofString "/claim/cut.py") 403] }) ::
   (nat_lit 169, f169.1) ::
   (nat_lit 175, { cls := Value.type "code", data := Data.fields #[Value.str (Str.ofString "size") 405, Value.str (Str.ofString "Store.size") 406, Value.str (Str.ofString "/claim/cut.py") 407, Value.int 124 0, Value.int 1 0, Value.int 0 0, Value.int 0 0, Value.int 3 0, Value.ref 170, Value.bool true, Value.int 181 0, Value.ref 171, Value.none, Value.ref 172, Value.ref 173, Value.ref 174, Value.int 409 0, Value.int 124 0, Value.str (Str.ofString "/claim/cut.py") 410] }) ::
   (nat_lit 176, f176.1) ::
   (nat_lit 182, { cls := Value.type "code", data := Data.fields #[Value.str (Str.ofString "dom") 412, Value.str (Str.ofString "Store.dom") 413, Value.str (Str.ofString "/claim/cut.py") 414, Value.int 127 0, Value.int 2 0, Value.int 0 0, Value.int 0 0, Value.int 3 0, Value.ref 177, Value.bool true, Value.int 181 0, Value.ref 178, Value.none, Value.ref 179, Value.ref 180, Value.ref 181, Value.int 417 0, Value.int 127 0, Value.str (Str.ofString "/claim/cut.py") 418] }) ::
   (nat_lit 183, f183.1) ::
   (nat_lit 189, { cls := Value.type "code", data := Data.fields #[Value.str (Str.ofString "initial") 420, Value.str (Str.ofString "Store.initial") 421, Value.str (Str.ofString "/claim/cut.py") 422, Value.int 130 0, Value.int 2 0, Value.int 0 0, Value.int 0 0, Value.int 3 0, Value.ref 184, Value.bool true, Value.int 181 0, Value.ref 185, Value.none, Value.ref 186, Value.ref 187, Value.ref 188, Value.int 425 0, Value.int 130 0, Value.str (Str.ofString "/claim/cut.py") 426] }) ::
   (nat_lit 190, f190.1) ::
   (nat_lit 196, { cls := Value.type "code", data := Data.fields #[Value.str (Str.ofString "low") 428, Value.str (Str.ofString "Store.low") 429, Value.str (Str.ofString "/claim/cut.py") 430, Value.int 133 0, Value.int 2 0, Value.int 0 0, Value.int 0 0, Value.int 3 0, Value.ref 191, Value.bool true, Value.int 181 0, Value.ref 192, Value.none, Value.ref 193, Value.ref 194, Value.ref 195, Value.int 433 0, Value.int 133 0, Value.str (Str.ofString "/claim/cut.py") 434] }) ::
   (nat_lit 197, f197.1) ::
   (nat_lit 203, { cls := Value.type "code", data := Data.fields #[Value.str (Str.ofString "high") 436, Value.str (Str.ofString "Store.high") 437, Value.str (Str.ofString "/claim/cut.py") 438, Value.int 136 0, Value.int 2 0, Value.int 0 0, Value.int 0 0, Value.int 3 0, Value.ref 198, Value.bool true, Value.int 181 0, Value.ref 199, Value.none, Value.ref 200, Value.ref 201, Value.ref 202, Value.int 441 0, Value.int 136 0, Value.str (Str.ofString "/claim/cut.py") 442] }) ::
   (nat_lit 204, f204.1) ::
   (nat_lit 210, { cls := Value.type "code", data := Data.fields #[Value.str (Str.ofString "has") 444, Value.str (Str.ofString "Store.has") 445, Value.str (Str.ofString "/claim/cut.py") 446, Value.int 139 0, Value.int 3 0, Value.int 0 0, Value.int 0 0, Value.int 3 0, Value.ref 205, Value.bool true, Value.int 181 0, Value.ref 206, Value.none, Value.ref 207, Value.ref 208, Value.ref 209, Value.int 450 0, Value.int 139 0, Value.str (Str.ofString "/claim/cut.py") 451] }) ::
   (nat_lit 211, f211.1) ::
   (nat_lit 217, { cls := Value.type "code", data := Data.fields #[Value.str (Str.ofString "is_fixed") 453, Value.str (Str.ofString "Store.is_fixed") 454, Value.str (Str.ofString "/claim/cut.py") 455, Value.int 142 0, Value.int 2 0, Value.int 0 0, Value.int 0 0, Value.int 3 0, Value.ref 212, Value.bool true, Value.int 181 0, Value.ref 213, Value.none, Value.ref 214, Value.ref 215, Value.ref 216, Value.int 459 0, Value.int 142 0, Value.str (Str.ofString "/claim/cut.py") 460] }) ::
   (nat_lit 218, f218.1) ::
   (nat_lit 224, { cls := Value.type "code", data := Data.fields #[Value.str (Str.ofString "value") 462, Value.str (Str.ofString "Store.value") 463, Value.str (Str.ofString "/claim/cut.py") 464, Value.int 146 0, Value.int 2 0, Value.int 0 0, Value.int 0 0, Value.int 3 0, Value.ref 219, Value.bool true, Value.int 181 0, Value.ref 220, Value.none, Value.ref 221, Value.ref 222, Value.ref 223, Value.int 467 0, Value.int 146 0, Value.str (Str.ofString "/claim/cut.py") 468] }) ::
   (nat_lit 225, f225.1) ::
   (nat_lit 231, { cls := Value.type "code", data := Data.fields #[Value.str (Str.ofString "width") 470, Value.str (Str.ofString "Store.width") 471, Value.str (Str.ofString "/claim/cut.py") 472, Value.int 149 0, Value.int 2 0, Value.int 0 0, Value.int 0 0, Value.int 3 0, Value.ref 226, Value.bool true, Value.int 181 0, Value.ref 227, Value.none, Value.ref 228, Value.ref 229, Value.ref 230, Value.int 475 0, Value.int 149 0, Value.str (Str.ofString "/claim/cut.py") 476] }) ::
   (nat_lit 232, f232.1) ::
   (nat_lit 238, { cls := Value.type "code", data := Data.fields #[Value.str (Str.ofString "holds") 478, Value.str (Str.ofString "Store.holds") 479, Value.str (Str.ofString "/claim/cut.py") 480, Value.int 152 0, Value.int 2 0, Value.int 0 0, Value.int 0 0, Value.int 3 0, Value.ref 233, Value.bool true, Value.int 181 0, Value.ref 234, Value.none, Value.ref 235, Value.ref 236, Value.ref 237, Value.int 483 0, Value.int 152 0, Value.str (Str.ofString "/claim/cut.py") 484] }) ::
   (nat_lit 239, f239.1) ::
   (nat_lit 245, { cls := Value.type "code", data := Data.fields #[Value.str (Str.ofString "enter") 486, Value.str (Str.ofString "Store.enter") 487, Value.str (Str.ofString "/claim/cut.py") 488, Value.int 155 0, Value.int 4 0, Value.int 0 0, Value.int 0 0, Value.int 3 0, Value.ref 240, Value.bool true, Value.int 181 0, Value.ref 241, Value.none, Value.ref 242, Value.ref 243, Value.ref 244, Value.int 496 0, Value.int 155 0, Value.str (Str.ofString "/claim/cut.py") 497] }) ::
   (nat_lit 246, f246.1) ::
   (nat_lit 252, { cls := Value.type "code", data := Data.fields #[Value.str (Str.ofString "strike") 499, Value.str (Str.ofString "Store.strike") 500, Value.str (Str.ofString "/claim/cut.py") 501, Value.int 168 0, Value.int 3 0, Value.int 0 0, Value.int 0 0, Value.int 3 0, Value.ref 247, Value.bool true, Value.int 181 0, Value.ref 248, Value.none, Value.ref 249, Value.ref 250, Value.ref 251, Value.int 505 0, Value.int 168 0, Value.str (Str.ofString "/claim/cut.py") 506] }) ::
   (nat_lit 253, f253.1) ::
   (nat_lit 259, { cls := Value.type "code", data := Data.fields #[Value.str (Str.ofString "decide") 508, Value.str (Str.ofString "Store.decide") 509, Value.str (Str.ofString "/claim/cut.py") 510, Value.int 171 0, Value.int 2 0, Value.int 0 0, Value.int 0 0, Value.int 3 0, Value.ref 254, Value.bool true, Value.int 181 0, Value.ref 255, Value.none, Value.ref 256, Value.ref 257, Value.ref 258, Value.int 513 0, Value.int 171 0, Value.str (Str.ofString "/claim/cut.py") 514] }) ::
   (nat_lit 260, f260.1) ::
   (nat_lit 266, { cls := Value.type "code", data := Data.fields #[Value.str (Str.ofString "fail") 516, Value.str (Str.ofString "Store.fail") 517, Value.str (Str.ofString "/claim/cut.py") 518, Value.int 174 0, Value.int 2 0, Value.int 0 0, Value.int 0 0, Value.int 3 0, Value.ref 261, Value.bool true, Value.int 181 0, Value.ref 262, Value.none, Value.ref 263, Value.ref 264, Value.ref 265, Value.int 521 0, Value.int 174 0, Value.str (Str.ofString "/claim/cut.py") 522] }) ::
   (nat_lit 267, f267.1) ::
   (nat_lit 273, { cls := Value.type "code", data := Data.fields #[Value.str (Str.ofString "push") 524, Value.str (Str.ofString "Store.push") 525, Value.str (Str.ofString "/claim/cut.py") 526, Value.int 179 0, Value.int 1 0, Value.int 0 0, Value.int 0 0, Value.int 3 0, Value.ref 268, Value.bool true, Value.int 181 0, Value.ref 269, Value.none, Value.ref 270, Value.ref 271, Value.ref 272, Value.int 528 0, Value.int 179 0, Value.str (Str.ofString "/claim/cut.py") 529] }) ::
   (nat_lit 274, f274.1) ::
   (nat_lit 280, { cls := Value.type "code", data := Data.fields #[Value.str (Str.ofString "pop") 531, Value.str (Str.ofString "Store.pop") 532, Value.str (Str.ofString "/claim/cut.py") 533, Value.int 182 0, Value.int 2 0, Value.int 0 0, Value.int 0 0, Value.int 3 0, Value.ref 275, Value.bool true, Value.int 181 0, Value.ref 276, Value.none, Value.ref 277, Value.ref 278, Value.ref 279, Value.int 538 0, Value.int 182 0, Value.str (Str.ofString "/claim/cut.py") 539] }) ::
   (nat_lit 281, f281.1) ::
   (nat_lit 287, { cls := Value.type "code", data := Data.fields #[Value.str (Str.ofString "depth") 541, Value.str (Str.ofString "Store.depth") 542, Value.str (Str.ofString "/claim/cut.py") 543, Value.int 194 0, Value.int 1 0, Value.int 0 0, Value.int 0 0, Value.int 3 0, Value.ref 282, Value.bool true, Value.int 181 0, Value.ref 283, Value.none, Value.ref 284, Value.ref 285, Value.ref 286, Value.int 545 0, Value.int 194 0, Value.str (Str.ofString "/claim/cut.py") 546] }) ::
   (nat_lit 288, f288.1) ::
   (nat_lit 294, { cls := Value.type "code", data := Data.fields #[Value.str (Str.ofString "changed") 548, Value.str (Str.ofString "Store.changed") 549, Value.str (Str.ofString "/claim/cut.py") 550, Value.int 197 0, Value.int 1 0, Value.int 0 0, Value.int 0 0, Value.int 3 0, Value.ref 289, Value.bool true, Value.int 181 0, Value.ref 290, Value.none, Value.ref 291, Value.ref 292, Value.ref 293, Value.int 552 0, Value.int 197 0, Value.str (Str.ofString "/claim/cut.py") 553] }) ::
   (nat_lit 295, f295.1) ::
   (nat_lit 297, { cls := Value.type "dict", data := Data.dict #[{ hash := PyData.keyHash P (Str.ofString "__module__"), key := Value.str (Str.ofString "__module__") 385, val := Value.str (Str.ofString "fdsolve.store") 376 }, { hash := PyData.keyHash P (Str.ofString "__firstlineno__"), key := Value.str (Str.ofString "__firstlineno__") 389, val := Value.int 105 388 }, { hash := PyData.keyHash P (Str.ofString "__init__"), key := Value.str (Str.ofString "__init__") 396, val := Value.ref 162 }, { hash := PyData.keyHash P (Str.ofString "new_var"), key := Value.str (Str.ofString "new_var") 404, val := Value.ref 169 }, { hash := PyData.keyHash P (Str.ofString "size"), key := Value.str (Str.ofString "size") 411, val := Value.ref 176 }, { hash := PyData.keyHash P (Str.ofString "dom"), key := Value.str (Str.ofString "dom") 419, val := Value.ref 183 }, { hash := PyData.keyHash P (Str.ofString "initial"), key := Value.str (Str.ofString "initial") 427, val := Value.ref 190 }, { hash := PyData.keyHash P (Str.ofString "low"), key := Value.str (Str.ofString "low") 435, val := Value.ref 197 }, { hash := PyData.keyHash P (Str.ofString "high"), key := Value.str (Str.ofString "high") 443, val := Value.ref 204 }, { hash := PyData.keyHash P (Str.ofString "has"), key := Value.str (Str.ofString "has") 452, val := Value.ref 211 }, { hash := PyData.keyHash P (Str.ofString "is_fixed"), key := Value.str (Str.ofString "is_fixed") 461, val := Value.ref 218 }, { hash := PyData.keyHash P (Str.ofString "value"), key := Value.str (Str.ofString "value") 469, val := Value.ref 225 }, { hash := PyData.keyHash P (Str.ofString "width"), key := Value.str (Str.ofString "width") 477, val := Value.ref 232 }, { hash := PyData.keyHash P (Str.ofString "holds"), key := Value.str (Str.ofString "holds") 485, val := Value.ref 239 }, { hash := PyData.keyHash P (Str.ofString "enter"), key := Value.str (Str.ofString "enter") 498, val := Value.ref 246 }, { hash := PyData.keyHash P (Str.ofString "strike"), key := Value.str (Str.ofString "strike") 507, val := Value.ref 253 }, { hash := PyData.keyHash P (Str.ofString "decide"), key := Value.str (Str.ofString "decide") 515, val := Value.ref 260 }, { hash := PyData.keyHash P (Str.ofString "fail"), key := Value.str (Str.ofString "fail") 523, val := Value.ref 267 }, { hash := PyData.keyHash P (Str.ofString "push"), key := Value.str (Str.ofString "push") 530, val := Value.ref 274 }, { hash := PyData.keyHash P (Str.ofString "pop"), key := Value.str (Str.ofString "pop") 540, val := Value.ref 281 }, { hash := PyData.keyHash P (Str.ofString "depth"), key := Value.str (Str.ofString "depth") 547, val := Value.ref 288 }, { hash := PyData.keyHash P (Str.ofString "changed"), key := Value.str (Str.ofString "changed") 554, val := Value.ref 295 }, { hash := PyData.keyHash P (Str.ofString "__static_attributes__"), key := Value.str (Str.ofString "__static_attributes__") 563, val := Value.ref 296 }, { hash := PyData.keyHash P (Str.ofString "__dict__"), key := Value.str (Str.ofString "__dict__") 565, val := Value.ref 299 }, { hash := PyData.keyHash P (Str.ofString "__weakref__"), key := Value.str (Str.ofString "__weakref__") 567, val := Value.ref 300 }, { hash := PyData.keyHash P (Str.ofString "__doc__"), key := Value.str (Str.ofString "__doc__") 568, val := Value.none }] 4 }) ::
   (nat_lit 298, { cls := Value.type "type", data := Data.cls { name := Str.ofString "Store", bases := [Value.type "object"], mro := [Value.ref 298, Value.type "object"], ns := 297, qualname := Str.ofString "Store" }, slots := #[none, none, some (Value.str (Str.ofString "Store") 378), some (Value.str (Str.ofString "Store") 386), some (Value.builtin "object.__new__"), some (Value.bool true)] }) ::
   (nat_lit 299, { cls := Value.type "getset_descriptor", data := Data.fields #[Value.str (Str.ofString "__dict__") 564, Value.ref 298, Value.builtin "function.__dict__", Value.builtin "function.__dict__#set"] }) ::
   (nat_lit 300, { cls := Value.type "getset_descriptor", data := Data.fields #[Value.str (Str.ofString "__weakref__") 566, Value.ref 298, Value.builtin "ExceptionGroup.__weakref__", Value.none] }) ::
   (nat_lit 308, { cls := Value.type "code", data := Data.fields #[Value.str (Str.ofString "_law_far") 573, Value.str (Str.ofString "_law_far") 574, Value.str (Str.ofString "/claim/cut.py") 575, Value.int 200 0, Value.int 0 0, Value.int 0 0, Value.int 0 0, Value.int 3 0, Value.ref 303, Value.bool true, Value.int 181 0, Value.ref 304, Value.none, Value.ref 305, Value.ref 306, Value.ref 307, Value.int 576 0, Value.int 200 0, Value.str (Str.ofString "/claim/cut.py") 577] }) ::
   (nat_lit 309, f309.1) ::
   (nat_lit 315, { cls := Value.type "code", data := Data.fields #[Value.str (Str.ofString "_law_draw") 579, Value.str (Str.ofString "_law_draw") 580, Value.str (Str.ofString "/claim/cut.py") 581, Value.int 202 0, Value.int 2 0, Value.int 0 0, Value.int 0 0, Value.int 3 0, Value.ref 310, Value.bool true, Value.int 181 0, Value.ref 311, Value.none, Value.ref 312, Value.ref 313, Value.ref 314, Value.int 585 0, Value.int 202 0, Value.str (Str.ofString "/claim/cut.py") 586] }) ::
   (nat_lit 316, f316.1) ::
   (nat_lit 322, { cls := Value.type "code", data := Data.fields #[Value.str (Str.ofString "_law_ranges") 588, Value.str (Str.ofString "_law_ranges") 589, Value.str (Str.ofString "/claim/cut.py") 590, Value.int 208 0, Value.int 1 0, Value.int 0 0, Value.int 0 0, Value.int 3 0, Value.ref 317, Value.bool true, Value.int 181 0, Value.ref 318, Value.none, Value.ref 319, Value.ref 320, Value.ref 321, Value.int 598 0, Value.int 208 0, Value.str (Str.ofString "/claim/cut.py") 599] }) ::
   (nat_lit 323, f323.1) ::
   (nat_lit 327, { cls := Value.type "code", data := Data.fields #[Value.str (Str.ofString "_law_many") 601, Value.str (Str.ofString "_law_many") 602, Value.str (Str.ofString "/claim/cut.py") 603, Value.int 217 0, Value.int 3 0, Value.int 0 0, Value.int 0 0, Value.int 3 0, Value.ref 324, Value.bool true, Value.int 181 0, Value.ref 325, Value.none, Value.none, Value.none, Value.ref 326, Value.int 604 0, Value.int 217 0, Value.str (Str.ofString "/claim/cut.py") 605] }) ::
   (nat_lit 328, f328.1) ::
   (nat_lit 334, { cls := Value.type "code", data := Data.fields #[Value.str (Str.ofString "_law_is_half") 607, Value.str (Str.ofString "_law_is_half") 608, Value.str (Str.ofString "/claim/cut.py") 609, Value.int 219 0, Value.int 2 0, Value.int 0 0, Value.int 0 0, Value.int 3 0, Value.ref 329, Value.bool true, Value.int 181 0, Value.ref 330, Value.none, Value.ref 331, Value.ref 332, Value.ref 333, Value.int 614 0, Value.int 219 0, Value.str (Str.ofString "/claim/cut.py") 615] }) ::
   (nat_lit 335, f335.1) ::
   (nat_lit 339, { cls := Value.type "code", data := Data.fields #[Value.str (Str.ofString "_law_between") 617, Value.str (Str.ofString "_law_between") 618, Value.str (Str.ofString "/claim/cut.py") 619, Value.int 222 0, Value.int 3 0, Value.int 0 0, Value.int 0 0, Value.int 3 0, Value.ref 336, Value.bool true, Value.int 181 0, Value.ref 337, Value.none, Value.none, Value.none, Value.ref 338, Value.int 620 0, Value.int 222 0, Value.str (Str.ofString "/claim/cut.py") 621] }) ::
   (nat_lit 340, f340.1) ::
   (nat_lit 346, { cls := Value.type "code", data := Data.fields #[Value.str (Str.ofString "_law_wanted") 623, Value.str (Str.ofString "_law_wanted") 624, Value.str (Str.ofString "/claim/cut.py") 625, Value.int 224 0, Value.int 4 0, Value.int 0 0, Value.int 0 0, Value.int 3 0, Value.ref 341, Value.bool true, Value.int 181 0, Value.ref 342, Value.none, Value.ref 343, Value.ref 344, Value.ref 345, Value.int 635 0, Value.int 224 0, Value.str (Str.ofString "/claim/cut.py") 636] }) ::
   (nat_lit 347, f347.1) ::
   (nat_lit 353, { cls := Value.type "code", data := Data.fields #[Value.str (Str.ofString "_law_is_place_right") 638, Value.str (Str.ofString "_law_is_place_right") 639, Value.str (Str.ofString "/claim/cut.py") 640, Value.int 232 0, Value.int 4 0, Value.int 0 0, Value.int 0 0, Value.int 3 0, Value.ref 348, Value.bool true, Value.int 181 0, Value.ref 349, Value.none, Value.ref 350, Value.ref 351, Value.ref 352, Value.int 647 0, Value.int 232 0, Value.str (Str.ofString "/claim/cut.py") 648] }) ::
   (nat_lit 354, f354.1) ::
   (nat_lit 358, { cls := Value.type "code", data := Data.fields #[Value.str (Str.ofString "law") 650, Value.str (Str.ofString "law") 651, Value.str (Str.ofString "/claim/cut.py") 652, Value.int 240 0, Value.int 1 0, Value.int 0 0, Value.int 0 0, Value.int 3 0, Value.ref 355, Value.bool true, Value.int 181 0, Value.ref 356, Value.none, Value.none, Value.none, Value.ref 357, Value.int 653 0, Value.int 240 0, Value.str (Str.ofString "/claim/cut.py") 654] }) ::
   (nat_lit 359, f359.1) :: []
noncomputable def asF : List Addr := nat_lit 2 :: nat_lit 3 :: nat_lit 20 :: nat_lit 21 :: nat_lit 34 :: nat_lit 35 :: nat_lit 41 :: nat_lit 42 :: nat_lit 48 :: nat_lit 49 :: nat_lit 55 :: nat_lit 56 :: nat_lit 62 :: nat_lit 63 :: nat_lit 65 :: nat_lit 66 :: nat_lit 67 :: nat_lit 68 :: nat_lit 76 :: nat_lit 77 :: nat_lit 83 :: nat_lit 84 :: nat_lit 88 :: nat_lit 89 :: nat_lit 95 :: nat_lit 96 :: nat_lit 102 :: nat_lit 103 :: nat_lit 107 :: nat_lit 108 :: nat_lit 112 :: nat_lit 113 :: nat_lit 119 :: nat_lit 120 :: nat_lit 126 :: nat_lit 127 :: nat_lit 133 :: nat_lit 134 :: nat_lit 140 :: nat_lit 141 :: nat_lit 147 :: nat_lit 148 :: nat_lit 161 :: nat_lit 162 :: nat_lit 168 :: nat_lit 169 :: nat_lit 175 :: nat_lit 176 :: nat_lit 182 :: nat_lit 183 :: nat_lit 189 :: nat_lit 190 :: nat_lit 196 :: nat_lit 197 :: nat_lit 203 :: nat_lit 204 :: nat_lit 210 :: nat_lit 211 :: nat_lit 217 :: nat_lit 218 :: nat_lit 224 :: nat_lit 225 :: nat_lit 231 :: nat_lit 232 :: nat_lit 238 :: nat_lit 239 :: nat_lit 245 :: nat_lit 246 :: nat_lit 252 :: nat_lit 253 :: nat_lit 259 :: nat_lit 260 :: nat_lit 266 :: nat_lit 267 :: nat_lit 273 :: nat_lit 274 :: nat_lit 280 :: nat_lit 281 :: nat_lit 287 :: nat_lit 288 :: nat_lit 294 :: nat_lit 295 :: nat_lit 297 :: nat_lit 298 :: nat_lit 299 :: nat_lit 300 :: nat_lit 308 :: nat_lit 309 :: nat_lit 315 :: nat_lit 316 :: nat_lit 322 :: nat_lit 323 :: nat_lit 327 :: nat_lit 328 :: nat_lit 334 :: nat_lit 335 :: nat_lit 339 :: nat_lit 340 :: nat_lit 346 :: nat_lit 347 :: nat_lit 353 :: nat_lit 354 :: nat_lit 358 :: nat_lit 359 :: []
noncomputable def VW : Program := view Challenge.pw_pq0372_01 [0, 2, 4, 5, 6, 7, 8, 9, 10, 11, 12, 13, 14, 15, 16, 17, 19, 21, 22, 23, 24, 25, 26, 27, 28, 29]
noncomputable abbrev LS : List PySem.Str := [Str.ofString "size_domains", Str.ofString "has_domains"]
noncomputable abbrev HK : Hook := kHook KF asF (fun _ => rfl)
theorem said : Challenge.rw_pq0372_01.wellSaid = true := (congrFun PySem.W.Fast.te9446332074065402090 Challenge.rw_pq0372_01).trans (by kernel_rfl)
theorem left : LeftO Challenge.pw_pq0372_01 VW LS (fun s => xlAt VW [] s && recOk (RowW.records (OpenRow.toRowW (OpenLaw.row Challenge.rw_pq0372_01))) s) (Hook.obs HK) (Hook.val HK) 3976 := fun w => by
  unfold openEnds fencedOpening topFrom xlAt
  rw [PySem.W.Fast.te10274390034422433532, PySem.W.Fast.te1435165496053646825, PySem.W.Fast.te14289696077712309145, PySem.W.Fast.te14082659384304107361, PySem.W.Fast.te4187177175401517315, PySem.W.Fast.te14364793385576792824, PySem.W.Fast.te5923862056798008813, PySem.W.Fast.te8920871248978507458, PySem.W.Fast.te964301259703733418]
  kernel_rfl
end Mine
namespace Mine
section
theorem off10 : True := by
  w_top off
  trivial
noncomputable abbrev PR : Program := Challenge.rw_pq0372_01.row.prog
noncomputable abbrev LO : List PySem.Str := looseW VW [Str.ofString "size_domains", Str.ofString "has_domains"]
noncomputable abbrev KK (w : World) : Frag := KF w.params

/-- the text's own part, and the built-in names, in a heap B that every later heap keeps -/
structure Core (w : World) (mean : ExcName → Option Value) (mg mb : PySem.Str → Option Value) (B : Heap) : Prop where
  X : (KF w.params).In B
  T : Top VW LO mean mg mb B

/-- room for k more frames -/
structure Calm (A : Around) (k : Nat) : Prop where
  hh : A.handled = none
  hd : A.depth + k < 900
  hu : A.units + 300 * k < 9000

theorem Calm.room {A : Around} {k : Nat} (h : Calm A k) : A.depth < recursionLimit := by
  have := h.hd; simp only [recursionLimit]; omega
theorem Calm.deeper {A : Around} {k : Nat} (h : Calm A (k + 1)) (env : Env) : Calm (A.deeper env) k := by
  refine ⟨h.hh, ?_, ?_⟩
  · have := h.hd; simp only [Around.deeper]; omega
  · have := h.hu; simp only [Around.deeper]; omega
theorem Calm.le {A : Around} {k j : Nat} (h : Calm A k) (e : j ≤ k) : Calm A j := by
  refine ⟨h.hh, ?_, ?_⟩
  · have := h.hd; omega
  · have := h.hu; omega
theorem Calm.units {A : Around} {k : Nat} (h : Calm A (k + 1)) : A.units + 64 < cLine := by
  have := h.hu; simp only [cLine]; omega

theorem Calm.u {A : Around} {k : Nat} (h : Calm A k) : A.units < cLine := by
  have := h.hu; simp only [cLine]; omega
theorem Calm.u1 {A : Around} {k : Nat} (h : Calm A k) : A.units + 64 < cLine := by
  have := h.hu; simp only [cLine]; omega
noncomputable abbrev tupObj (vs : List Value) : Obj := { cls := .type "tuple", data := .seq vs.toArray }
noncomputable abbrev Stays (h h' : Heap) : Prop := ∀ b o, h.get? b = some o → h'.get? b = some o
/-- every object keeps, but for those at the addresses of S -/
noncomputable def StaysBut (S : List Addr) (h h' : Heap) : Prop := ∀ b o, b ∉ S → h.get? b = some o → h'.get? b = some o

section
variable {w : World} {mean : ExcName → Option Value} {mg mb : PySem.Str → Option Value} {B : Heap} {A : Around} {s : Shared} {k : Nat}
    {R : Result → Shared → Prop} {name qual : PySem.Str} {params : Arguments} {body : List Stmt} {scope : Scope} {dV kV doc pm cdv ct oc : Value} {an od : Option Addr} {osl : Array (Option Value)} {f : Addr} {args : Args} {binds : List (PySem.Str × Value)}

theorem enter (mu : List (Addr × Obj))
    (C : Core w mean mg mb B) (hB : Stays B s.heap) (hA : Calm A (k + 1)) (N : ∀ p ∈ mu, s.heap.get? p.1 = some p.2 ∧ B.get? p.1 = none)
    (ho : (KF w.params).lookup f = some ⟨oc, od, .func (fnOf name qual params body scope dV kV doc pm an cdv ct), osl⟩) (hcd : codeIn (KF w.params) cdv qual = true)
    (hbind : BindsTo s (fnOf name qual params body scope dV kV doc pm an cdv ct) args binds) (hloc : ∀ y ∈ binds, scope.names.lookup y.1 = some .local)
    (h : ∀ g L h₁ tk, g = hideAll s.heap (mu.map (·.1)) → L = s.heap.objs.size → Fr g L h₁ (fun y => binds.reverse.lookup y) → News g L h₁ mu → (KF w.params).In g → Top VW LO mean mg mb g →
      Stays B g → (∀ b o, b ∉ mu.map (·.1) → s.heap.get? b = some o → g.get? b = some o) → (∀ p ∈ mu, p.1 < L) → Calm (A.deeper (envOf qual scope L f cdv)) k →
      wpAny (model PR w) (A.deeper (envOf qual scope L f cdv)) (execs body (envOf qual scope L f cdv))
        (fun fl s' => R (.ok (.ret (match fl with | .ret v => v | _ => .none))) s') (fun _ _ => False)
        { s with heap := h₁, toks := tk })
    (hco : scope.isCoroutine = false := by rfl) (hgen : scope.isGenerator = false := by rfl) (hk : scope.kind = .function := by rfl)
    (hcell : ∀ x ∈ scope.names, x.2 ≠ .cell := by decide) : codeAny (model PR w) A (.call (.ref f) args) R s := by
  have X' : (KF w.params).In s.heap := C.X.keeps hB
  refine codeAny_call_def (fd := fnOf name qual params body scope dV kV doc pm an cdv ct) (body := body) (binds := binds) hA.room (X' _ _ ho) rfl (C.T.nolimit.keeps hB) (codeRec_of X' hcd) rfl hbind hcell hloc (fun h₁ hns hk₁ => ?_) hco hgen hk
  have st : B.StaysIn (hideAll s.heap (mu.map (·.1))) := fun b o e => hideAll_get _ (hB b o e) fun q => by
    obtain ⟨p, hp, rfl⟩ := List.mem_map.mp q
    rw [(N p hp).2] at e; cases e
  refine wpAny_mono (h _ s.heap.objs.size h₁ _ rfl rfl ⟨hns, fun b o e => hk₁ b o (of_hideAll _ e), Nat.le_of_eq (hideAll_size _ _)⟩
    (fun p hp => ⟨hk₁ _ _ (N p hp).1, Nat.ne_of_lt (Heap.lt_size (N p hp).1), hideAll_none _ (List.mem_map_of_mem hp)⟩) (C.X.keeps st) (C.T.keeps st) st
    (fun b o n e => hideAll_get _ e n) (fun p hp => Heap.lt_size (N p hp).1) (hA.deeper _)) (fun _ _ x => x) fun _ _ x => x.elim

theorem enterC (mu : List (Addr × Obj))
    (C : Core w mean mg mb B) (hB : Stays B s.heap) (hA : Calm A (k + 1)) (N : ∀ p ∈ mu, s.heap.get? p.1 = some p.2 ∧ B.get? p.1 = none)
    (ho : (KF w.params).lookup f = some ⟨oc, od, .func (fnOf name qual params body scope dV kV doc pm an cdv ct), osl⟩) (hcd : codeIn (KF w.params) cdv qual = true)
    (hbind : BindsTo s (fnOf name qual params body scope dV kV doc pm an cdv ct) args binds)
    (hkind : (binds.all fun y => scope.names.lookup y.1 == some .local || scope.names.lookup y.1 == some .cell) = true)
    (hnd : ((cellsFrom 0 scope.names []).map (·.1)).Nodup)
    (h : ∀ g L h₁ tk cells, g = hideAll s.heap (mu.map (·.1)) → L = s.heap.objs.size → Fr g L h₁ (bindL (envOfC qual scope L f cdv).kindOf binds fun _ => none) → News g L h₁ (cells ++ mu) →
      CellsAre (bindC (envOfC qual scope L f cdv).kindOf binds fun _ => none) (cellsFrom (L + 1) scope.names []) cells → (KF w.params).In g → Top VW LO mean mg mb g →
      Stays B g → (∀ b o, b ∉ mu.map (·.1) → s.heap.get? b = some o → g.get? b = some o) → (∀ p ∈ mu, p.1 < L) → Calm (A.deeper (envOfC qual scope L f cdv)) k →
      wpAny (model PR w) (A.deeper (envOfC qual scope L f cdv)) (execs body (envOfC qual scope L f cdv))
        (fun fl s' => R (.ok (.ret (match fl with | .ret v => v | _ => .none))) s') (fun _ _ => False)
        { s with heap := h₁, toks := tk })
    (hco : scope.isCoroutine = false := by rfl) (hgen : scope.isGenerator = false := by rfl) (hk : scope.kind = .function := by rfl) : codeAny (model PR w) A (.call (.ref f) args) R s := by
  have X' : (KF w.params).In s.heap := C.X.keeps hB
  have st : B.StaysIn (hideAll s.heap (mu.map (·.1))) := fun b o e => hideAll_get _ (hB b o e) fun q => by
    obtain ⟨p, hp, rfl⟩ := List.mem_map.mp q
    rw [(N p hp).2] at e; cases e
  refine codeAny_call_function hA.room (X' _ _ ho) rfl hco hgen rfl (codeRec_of X' hcd) (hbind _ _ _ _ ?_)
  refine wpAny_newFunctionEnv_cells hk (kindsX hkind _) fun env' he s' x => ?_
  subst he
  refine ⟨(C.T.nolimit.keeps hB).keeps x.toInCall.keep, codeAny_func ?_⟩
  obtain ⟨h₁, tk, rfl, _⟩ := x.done
  have hk₁ := x.toInCall.keep
  obtain ⟨cells, NC, Y⟩ := Cl.news (h₀ := s.heap) (Nat.le_refl _) fun n c hm => ⟨x.cell n c (lookup_of_mem_nodup (cellsFrom_names scope.names 0 (s.heap.objs.size + 1) [] [] rfl ▸ hnd) hm), x.above n c hm⟩
  refine wpAny_mono (h _ s.heap.objs.size h₁ tk cells rfl rfl ⟨x.toInCall.ns, fun b o e => hk₁ b o (of_hideAll _ e), Nat.le_of_eq (hideAll_size _ _)⟩ (fun p hp => ?_) Y (C.X.keeps st) (C.T.keeps st) st
    (fun b o n e => hideAll_get _ e n) (fun p hp => Heap.lt_size (N p hp).1) (hA.deeper _)) (fun _ _ x => x) fun _ _ x => x.elim
  rcases List.mem_append.mp hp with hp | hp
  · refine ⟨(NC p hp).1, (NC p hp).2.1, ?_⟩
    cases q : (hideAll s.heap (mu.map (·.1))).get? p.1 with
    | none => rfl
    | some o => have := of_hideAll _ q; rw [(NC p hp).2.2] at this; cases this
  · exact ⟨hk₁ _ _ (N p hp).1, Nat.ne_of_lt (Heap.lt_size (N p hp).1), hideAll_none _ (List.mem_map_of_mem hp)⟩
end


section
variable {w : World} {mean : ExcName → Option Value} {mg mb : PySem.Str → Option Value} {B : Heap} {A : Around} {s : Shared} {k : Nat}
    {R : Result → Shared → Prop} {name qual : PySem.Str} {params : Arguments} {body : List Stmt} {scope : Scope} {dV kV doc pm cdv ct oc : Value} {an od : Option Addr} {osl : Array (Option Value)} {f : Addr} {args : Args} {binds : List (PySem.Str × Value)}

/-- a call that changes nothing that stands: the whole heap is its base -/
theorem enter0
    (C : Core w mean mg mb B) (hB : Stays B s.heap) (hA : Calm A (k + 1))
    (ho : (KF w.params).lookup f = some ⟨oc, od, .func (fnOf name qual params body scope dV kV doc pm an cdv ct), osl⟩) (hcd : codeIn (KF w.params) cdv qual = true)
    (hbind : BindsTo s (fnOf name qual params body scope dV kV doc pm an cdv ct) args binds) (hloc : ∀ y ∈ binds, scope.names.lookup y.1 = some .local)
    (h : ∀ L h₁ tk, L = s.heap.objs.size → Fr s.heap L h₁ (fun y => binds.reverse.lookup y) → News s.heap L h₁ [] → (KF w.params).In s.heap → Top VW LO mean mg mb s.heap →
      Calm (A.deeper (envOf qual scope L f cdv)) k →
      wpAny (model PR w) (A.deeper (envOf qual scope L f cdv)) (execs body (envOf qual scope L f cdv))
        (fun fl s' => R (.ok (.ret (match fl with | .ret v => v | _ => .none))) s') (fun _ _ => False)
        { s with heap := h₁, toks := tk })
    (hco : scope.isCoroutine = false := by rfl) (hgen : scope.isGenerator = false := by rfl) (hk : scope.kind = .function := by rfl)
    (hcell : ∀ x ∈ scope.names, x.2 ≠ .cell := by decide) : codeAny (model PR w) A (.call (.ref f) args) R s :=
  enter [] C hB hA (fun p hp => nomatch hp) ho hcd hbind hloc (fun g L h₁ tk hg hL F N X T _ _ _ hAk => by subst hg; exact h L h₁ tk hL F N X T hAk) hco hgen hk hcell

theorem enterC0
    (C : Core w mean mg mb B) (hB : Stays B s.heap) (hA : Calm A (k + 1))
    (ho : (KF w.params).lookup f = some ⟨oc, od, .func (fnOf name qual params body scope dV kV doc pm an cdv ct), osl⟩) (hcd : codeIn (KF w.params) cdv qual = true)
    (hbind : BindsTo s (fnOf name qual params body scope dV kV doc pm an cdv ct) args binds)
    (hkind : (binds.all fun y => scope.names.lookup y.1 == some .local || scope.names.lookup y.1 == some .cell) = true)
    (hnd : ((cellsFrom 0 scope.names []).map (·.1)).Nodup)
    (h : ∀ L h₁ tk cells, L = s.heap.objs.size → Fr s.heap L h₁ (bindL (envOfC qual scope L f cdv).kindOf binds fun _ => none) → News s.heap L h₁ cells →
      CellsAre (bindC (envOfC qual scope L f cdv).kindOf binds fun _ => none) (cellsFrom (L + 1) scope.names []) cells → (KF w.params).In s.heap → Top VW LO mean mg mb s.heap →
      Calm (A.deeper (envOfC qual scope L f cdv)) k →
      wpAny (model PR w) (A.deeper (envOfC qual scope L f cdv)) (execs body (envOfC qual scope L f cdv))
        (fun fl s' => R (.ok (.ret (match fl with | .ret v => v | _ => .none))) s') (fun _ _ => False)
        { s with heap := h₁, toks := tk })
    (hco : scope.isCoroutine = false := by rfl) (hgen : scope.isGenerator = false := by rfl) (hk : scope.kind = .function := by rfl) : codeAny (model PR w) A (.call (.ref f) args) R s :=
  enterC [] C hB hA (fun p hp => nomatch hp) ho hcd hbind hkind hnd (fun g L h₁ tk cells hg hL F N Y X T _ _ _ hAk => by subst hg; rw [List.append_nil] at N; exact h L h₁ tk cells hL F N Y X T hAk) hco hgen hk
end

/-! ## reads -/
section
variable {prog : Program} {w : World} {A : Around} {E : Value → Shared → Prop} {s : Shared}

theorem seqIndex_nat {j n : Nat} (h : j < n) : seqIndex? (j : Int) n = some j := by
  have h0 : ¬ ((j : Int) < 0) := by omega
  have h1 : (0 : Int) ≤ j := by omega
  have h2 : (j : Int) < n := by omega
  simp only [seqIndex?, if_neg h0, decide_eq_true h1, decide_eq_true h2, Bool.and_self, if_true, Int.toNat_natCast]
theorem seqIndex_last {n : Nat} (h : 0 < n) : seqIndex? (-1) n = some (n - 1) := by
  have h0 : (-1 : Int) < 0 := by omega
  have h1 : (0 : Int) ≤ -1 + n := by omega
  have h2 : -1 + (n : Int) < n := by omega
  have h3 : (-1 + (n : Int)).toNat = n - 1 := by omega
  simp only [seqIndex?, if_pos h0, decide_eq_true h1, decide_eq_true h2, Bool.and_self, if_true, h3]

theorem tup_at {value slice : PySem.Expr} {t : Addr} {l : List Value} {k : Int} {u : Tok} {j : Nat} {x : Value} {Q : Value → Shared → Prop} (ht : IsTup s.heap t l.toArray)
    (hx : l[j]? = some x) (hk : k = (j : Int)) (hf : j < 2 ^ 62) (h : Q x s)
    (hs : subscripted slice false (.ref t) (.int k u) = operate [.ref t, .int k u] (getItem (.ref t) (.int k u)) := by with_unfolding_all rfl) :
    wpAny (model prog w) A (subscriptTail value slice (.ref t) (.int k u)) Q E s := by
  have hl : j < l.length := by
    obtain ⟨h, _⟩ := List.getElem?_eq_some_iff.mp hx; exact h
  exact item_tupleT ht (by omega) (by omega) (hk ▸ seqIndex_nat hl) hx h hs

theorem tup_last {value slice : PySem.Expr} {t : Addr} {l : List Value} {u : Tok} {x : Value} {Q : Value → Shared → Prop} (ht : IsTup s.heap t l.toArray)
    (hx : l[l.length - 1]? = some x) (h : Q x s)
    (hs : subscripted slice false (.ref t) (.int (-1) u) = operate [.ref t, .int (-1) u] (getItem (.ref t) (.int (-1) u)) := by with_unfolding_all rfl) :
    wpAny (model prog w) A (subscriptTail value slice (.ref t) (.int (-1) u)) Q E s := by
  have hl : l.length - 1 < l.length := by
    obtain ⟨h, _⟩ := List.getElem?_eq_some_iff.mp hx; exact h
  exact item_tupleT ht (by decide) (by decide) (seqIndex_last (by omega)) hx h hs

theorem list_at {value slice : PySem.Expr} {t : Addr} {l : List Value} {k : Int} {u : Tok} {j : Nat} {x : Value} {Q : Value → Shared → Prop} (ht : s.heap.IsList t l.toArray)
    (hx : l[j]? = some x) (hk : k = (j : Int)) (hf : j < 2 ^ 62) (h : Q x s)
    (hs : subscripted slice false (.ref t) (.int k u) = operate [.ref t, .int k u] (getItem (.ref t) (.int k u)) := by with_unfolding_all rfl) :
    wpAny (model prog w) A (subscriptTail value slice (.ref t) (.int k u)) Q E s :=
  item_litK ht (by omega) (by omega) (by rw [hk]; exact hx) h hs
end

section
variable {prog : Program} {w : World} {A : Around} {E : Value → Shared → Prop} {s : Shared} {Q : Value → Shared → Prop}
theorem len_tup {t : Addr} {vs : List Value} (ht : IsTup s.heap t (List.toArray vs)) (hf : vs.length ≤ 1000) (h : ∀ t' tk, Q (.int (vs.length : Int) t') { s with toks := tk }) : wpAny (model prog w) A (call (.builtin "len") [.ref t]) Q E s := by
  refine PyProof.Rows.len_tuple ht (by rw [List.size_toArray]; omega) ?_
  rw [List.size_toArray]; exact h _ _
theorem len_lst {t : Addr} {vs : List Value} (ht : s.heap.IsList t (List.toArray vs)) (hf : vs.length ≤ 1000) (h : ∀ t' tk, Q (.int (vs.length : Int) t') { s with toks := tk }) : wpAny (model prog w) A (call (.builtin "len") [.ref t]) Q E s := by
  refine PyProof.Rows.len_list ht (by rw [List.size_toArray]; omega) ?_
  rw [List.size_toArray]; exact h _ _
end
theorem le_sizeLine {n : Nat} (h : n ≤ 1000) : n ≤ sizeLine := Nat.le_trans h (by decide)

/-! ## data: ranges of ints -/
noncomputable abbrev Rng := List (Int × Int)
noncomputable def PairAt (h : Heap) (v : Value) (r : Int × Int) : Prop := ∃ p t1 t2, v = .ref p ∧ IsTup h p #[.int r.1 t1, .int r.2 t2]
noncomputable def Prs (h : Heap) : List Value → Rng → Prop
  | [], [] => True
  | v :: vs, r :: rs => PairAt h v r ∧ Prs h vs rs
  | _, _ => False
theorem PairAt.mono {h h' : Heap} {v : Value} {r : Int × Int} (k : Stays h h') (x : PairAt h v r) : PairAt h' v r := by
  obtain ⟨p, t1, t2, e, ht⟩ := x
  exact ⟨p, t1, t2, e, ht.keeps k⟩
theorem Prs.mono {h h' : Heap} (k : Stays h h') : ∀ {vs : List Value} {rs : Rng}, Prs h vs rs → Prs h' vs rs
  | [], [], _ => trivial
  | _ :: _, _ :: _, x => ⟨x.1.mono k, x.2.mono k⟩
theorem Prs.length {h : Heap} : ∀ {vs : List Value} {rs : Rng}, Prs h vs rs → vs.length = rs.length
  | [], [], _ => rfl
  | _ :: _, _ :: _, x => by simp [Prs.length x.2]
theorem Prs.get {h : Heap} : ∀ {vs : List Value} {rs : Rng}, Prs h vs rs → ∀ {i : Nat} {v : Value}, vs[i]? = some v → ∃ r, rs[i]? = some r ∧ PairAt h v r
  | _ :: _, r :: _, x, 0, _, e => ⟨r, rfl, by cases e; exact x.1⟩
  | _ :: _, _ :: _, x, i + 1, v, e => by simpa using Prs.get x.2 (i := i) (v := v) (by simpa using e)
theorem Prs.get' {h : Heap} : ∀ {vs : List Value} {rs : Rng}, Prs h vs rs → ∀ {i : Nat} {r : Int × Int}, rs[i]? = some r → ∃ v, vs[i]? = some v ∧ PairAt h v r
  | [], [], _, _, _, e => by simp at e
  | v :: _, _ :: _, x, 0, _, e => ⟨v, rfl, by cases e; exact x.1⟩
  | _ :: _, _ :: _, x, i + 1, r, e => by simpa using Prs.get' x.2 (i := i) (r := r) (by simpa using e)
theorem Prs.append {h : Heap} : ∀ {vs ws : List Value} {rs qs : Rng}, Prs h vs rs → Prs h ws qs → Prs h (vs ++ ws) (rs ++ qs)
  | [], _, [], _, _, y => y
  | _ :: _, _, _ :: _, _, x, y => ⟨x.1, Prs.append x.2 y⟩
theorem Prs.first {h : Heap} {vs : List Value} {rs : Rng} (x : Prs h vs rs) (hne : rs ≠ []) : ∃ p t1 t2 r, vs[0]? = some (.ref p) ∧ rs[0]? = some r ∧ IsTup h p #[.int r.1 t1, .int r.2 t2] := by
  cases rs with
  | nil => exact absurd rfl hne
  | cons r rs =>
    cases vs with
    | nil => exact x.elim
    | cons v vs =>
      obtain ⟨p, t1, t2, rfl, ht⟩ := x.1
      exact ⟨p, t1, t2, r, rfl, rfl, ht⟩
theorem Prs.last {h : Heap} {vs : List Value} {rs : Rng} (x : Prs h vs rs) (hne : rs ≠ []) : ∃ p t1 t2 r, vs[vs.length - 1]? = some (.ref p) ∧ rs[rs.length - 1]? = some r ∧ IsTup h p #[.int r.1 t1, .int r.2 t2] := by
  have hl := x.length
  have h0 : 0 < rs.length := List.length_pos_iff.mpr hne
  obtain ⟨v, e, p, t1, t2, rfl, ht⟩ := x.get' (i := rs.length - 1) (r := rs[rs.length - 1]) (by simp)
  exact ⟨p, t1, t2, _, by rw [hl]; exact e, by simp, ht⟩
/-- a domain: a tuple of pairs -/
noncomputable def DomAt (h : Heap) (v : Value) (rs : Rng) : Prop := ∃ a vs, v = .ref a ∧ IsTup h a (List.toArray vs) ∧ Prs h vs rs
noncomputable def LDomAt (h : Heap) (v : Value) (rs : Rng) : Prop := ∃ a vs, v = .ref a ∧ h.IsList a (List.toArray vs) ∧ Prs h vs rs
theorem isList_mono {h h' : Heap} {a : Addr} {vs : Array Value} (k : Stays h h') (x : h.IsList a vs) : h'.IsList a vs := let ⟨o, ho, r⟩ := x; ⟨o, k a o ho, r⟩
theorem DomAt.mono {h h' : Heap} {v : Value} {r : Rng} (k : Stays h h') (x : DomAt h v r) : DomAt h' v r := by
  obtain ⟨a, vs, e, ht, p⟩ := x
  exact ⟨a, vs, e, ht.keeps k, p.mono k⟩
theorem LDomAt.mono {h h' : Heap} {v : Value} {r : Rng} (k : Stays h h') (x : LDomAt h v r) : LDomAt h' v r := by
  obtain ⟨a, vs, e, ht, p⟩ := x
  exact ⟨a, vs, e, isList_mono k ht, p.mono k⟩

/-! ## the store's object -/
noncomputable abbrev storeObj (D : Addr) : Obj := ⟨.ref 298, some D, .plain, #[]⟩
noncomputable abbrev storeEs (hs : Nat → Int) (ts : Nat → Tok) (vd vf vt vm vn vs vi vc : Value) : List DictEntry :=
  [⟨hs 0, .str (Str.ofString "domains") (ts 0), vd⟩, ⟨hs 1, .str (Str.ofString "firsts") (ts 1), vf⟩, ⟨hs 2, .str (Str.ofString "trail") (ts 2), vt⟩, ⟨hs 3, .str (Str.ofString "marks") (ts 3), vm⟩,
   ⟨hs 4, .str (Str.ofString "news") (ts 4), vn⟩, ⟨hs 5, .str (Str.ofString "speaker") (ts 5), vs⟩, ⟨hs 6, .str (Str.ofString "is_failed") (ts 6), vi⟩, ⟨hs 7, .str (Str.ofString "clash") (ts 7), vc⟩]
theorem instAt_base {g h : Heap} {L : Addr} {m : PySem.Str → Option Value} {x C dx : Addr} {od : Obj} {sl : Array (Option Value)} (F : Fr g L h m) (h1 : g.get? x = some ⟨.ref C, some dx, .plain, sl⟩) (h2 : g.get? dx = some od) :
    InstAt h x ⟨.ref C, some dx, .plain, sl⟩ C (some od) := ⟨F.keep _ _ h1, rfl, rfl, F.keep _ _ h2⟩
theorem fr_tup {g h : Heap} {L a : Addr} {m : PySem.Str → Option Value} {vs : Array Value} (F : Fr g L h m) (x : IsTup g a vs) : IsTup h a vs := x.keeps F.keep
theorem fr_list {g h : Heap} {L a : Addr} {m : PySem.Str → Option Value} {vs : Array Value} (F : Fr g L h m) (x : g.IsList a vs) : h.IsList a vs := isList_mono F.keep x
theorem stays_fr {B g h : Heap} {L : Addr} {m : PySem.Str → Option Value} (k : Stays B g) (F : Fr g L h m) : Stays B h := fun b o e => F.keep b o (k b o e)
theorem kept_of {P : Prop} {g h h' : Heap} {L : Addr} {m : PySem.Str → Option Value} {news : List (Addr × Obj)} (k : Stays h h') (F : Fr g L h m) (N : News g L h news) (r : Fr g L h' m → News g L h' news → P) : P := r (Fr.keeps F k) (News.grown N k)
theorem lt_from {a b D : Nat} {R : Prop} (h : b < D ∧ R) (k : b < D ∧ R → a < D) : a < D := k h
theorem mem0 {α : Type} {a : α} {l : List α} : a ∈ a :: l := .head _
theorem mem1 {α : Type} {a b : α} {l : List α} : b ∈ a :: b :: l := .tail _ (.head _)
theorem mem2 {α : Type} {a b c : α} {l : List α} : c ∈ a :: b :: c :: l := .tail _ mem1
theorem mem3 {α : Type} {a b c d : α} {l : List α} : d ∈ a :: b :: c :: d :: l := .tail _ mem2
theorem mem4 {α : Type} {a b c d x : α} {l : List α} (h : x ∈ l) : x ∈ a :: b :: c :: d :: l := .tail _ (.tail _ (.tail _ (.tail _ h)))

end
local macro_rules | `(tactic| walk_at $s:str) => `(tactic| k_extra $s)
local macro_rules | `(tactic| size_fits) => `(tactic| exact of_decide_eq_true rfl)
local macro_rules | `(tactic| k_ne) => `(tactic| k_extra "k ne")
local macro_rules | `(tactic| k_all) => `(tactic| k_extra "k all")
local macro_rules | `(tactic| k_inst) => `(tactic| k_extra "k inst")
theorem rows10 : True := by
  k_with "m mem" => first | exact mem0 | exact mem1 | exact mem2 | exact mem3 | (refine' mem4 ?_; k_extra "m mem")
  k_with "k ne" => (refine neN ?_; (try dsimp only); k_extra "m ne0")
  k_with "m lt0" => first | with_reducible assumption | (refine lt_from (by with_reducible assumption) ?_; intro hh; first | exact hh.1 | exact hh.2 | exact hh.2.1 | exact hh.2.2 | exact hh.2.2.1 | exact hh.2.2.2 | exact hh.2.2.2.1 | exact hh.2.2.2.2 | exact hh.2.2.2.2.1 | exact hh.2.2.2.2.2 | exact hh.2.2.2.2.2.1 | exact hh.2.2.2.2.2.2 | exact hh.2.2.2.2.2.2.1 | exact hh.2.2.2.2.2.2.2 | exact hh.2.2.2.2.2.2.2.1 | exact hh.2.2.2.2.2.2.2.2 | exact hh.2.2.2.2.2.2.2.2.1 | exact hh.2.2.2.2.2.2.2.2.2 | exact hh.2.2.2.2.2.2.2.2.2.1 | exact hh.2.2.2.2.2.2.2.2.2.2 | exact hh.2.2.2.2.2.2.2.2.2.2.1 | exact hh.2.2.2.2.2.2.2.2.2.2.2 | exact hh.2.2.2.2.2.2.2.2.2.2.2.1 | exact hh.2.2.2.2.2.2.2.2.2.2.2.2 | exact hh.2.2.2.2.2.2.2.2.2.2.2.2.1 | exact hh.2.2.2.2.2.2.2.2.2.2.2.2.2 | exact hh.2.2.2.2.2.2.2.2.2.2.2.2.2.1 | exact hh.2.2.2.2.2.2.2.2.2.2.2.2.2.2 | exact hh.2.2.2.2.2.2.2.2.2.2.2.2.2.2.1 | exact hh.2.2.2.2.2.2.2.2.2.2.2.2.2.2.2 | exact hh.2.2.2.2.2.2.2.2.2.2.2.2.2.2.2.1 | exact hh.2.2.2.2.2.2.2.2.2.2.2.2.2.2.2.2 | exact hh.2.2.2.2.2.2.2.2.2.2.2.2.2.2.2.2.1 | exact hh.2.2.2.2.2.2.2.2.2.2.2.2.2.2.2.2.2 | exact hh.2.2.2.2.2.2.2.2.2.2.2.2.2.2.2.2.2.1 | exact hh.2.2.2.2.2.2.2.2.2.2.2.2.2.2.2.2.2.2 | exact hh.2.2.2.2.2.2.2.2.2.2.2.2.2.2.2.2.2.2.1 | exact hh.2.2.2.2.2.2.2.2.2.2.2.2.2.2.2.2.2.2.2 | exact hh.2.2.2.2.2.2.2.2.2.2.2.2.2.2.2.2.2.2.2.1 | exact hh.2.2.2.2.2.2.2.2.2.2.2.2.2.2.2.2.2.2.2.2 | exact hh.2.2.2.2.2.2.2.2.2.2.2.2.2.2.2.2.2.2.2.2.1 | exact hh.2.2.2.2.2.2.2.2.2.2.2.2.2.2.2.2.2.2.2.2.2 | exact hh.2.2.2.2.2.2.2.2.2.2.2.2.2.2.2.2.2.2.2.2.2.1 | exact hh.2.2.2.2.2.2.2.2.2.2.2.2.2.2.2.2.2.2.2.2.2.2)
  k_with "m lt" => first | k_extra "m lt0" | omega
  k_with "m ne0" => first | with_reducible assumption | exact Ne.symm (by with_reducible assumption) | exact Nat.ne_of_lt (by k_extra "m lt0") | exact Nat.ne_of_gt (by k_extra "m lt0")
  k_with "m fill" => (have hfill : Challenge.rw_pq0372_01 = Challenge.rw_pq0372_01 ∧ KF = KF := (by k_fill; exact ⟨rfl, rfl⟩); clear hfill)
  k_with "m around" => ((rename Around => mA'); (rcases mA' with ⟨_, _, _, _, _⟩); (have mE' := Calm.hh (by with_reducible assumption)); (dsimp only at mE'); subst mE')
  k_with "m enter0" => (k_extra "m around"; k_extra "m fill"; refine wpAny_call ?_; k_dflt (refine' enter0 (by assumption) (by assumption) (by assumption) (by k_is) (by k_is) (by exact BindsTo.of_eq rfl) (by exact locs rfl) ?_ (by exact rfl) (by exact rfl) (by exact rfl) (by decide); k_whole; intro _ _ _ _ _ _ _ _ _; (try dsimp only); (try k_fold)))
  k_with "m enterC0" => (k_extra "m around"; k_extra "m fill"; refine wpAny_call ?_; k_dflt (refine' enterC0 (by assumption) (by assumption) (by assumption) (by k_is) (by k_is) (by exact BindsTo.of_eq rfl) (by rfl) (by decide) ?_ (by exact rfl) (by exact rfl) (by exact rfl); k_whole; intro _ _ _ _ _ _ _ _ _ _ _; (try dsimp only); (try k_fold)))
  k_with "m cell1" => ((rename CellsAre _ _ _ => mY'); (with_unfolding_all have mY2' := CellsAre.one mY'); (obtain ⟨_, me', _⟩ := mY2'); (subst me'); clear mY')
  k_with "m cell2" => ((rename CellsAre _ _ _ => mY'); (with_unfolding_all have mY2' := CellsAre.two mY'); (obtain ⟨_, _, me', _, _⟩ := mY2'); (subst me'); clear mY')
  k_with "m tup" => first | assumption | exact fr_tup (by with_reducible assumption) (by with_reducible assumption) | exact News.isTup (by with_reducible assumption) (by news_mem)
  k_with "m list" => first | assumption | exact fr_list (by with_reducible assumption) (by with_reducible assumption) | exact News.isList (by with_reducible assumption) (by news_mem)
  k_with "call builtin:len" => (k_here; (with_reducible show wpAny _ _ (call (Value.builtin "len") [Value.ref _]) _ _ _); k_dflt first | (refine' len_tup (by k_extra "m tup") (by first | assumption | (with_reducible decide) | omega | (simp only [List.length_append, List.length_cons, List.length_nil]; first | decide | omega)) ?_; k_whole; intro _ _) | (refine' len_lst (by k_extra "m list") (by first | assumption | (with_reducible decide) | omega | (simp only [List.length_append, List.length_cons, List.length_nil]; first | decide | omega)) ?_; k_whole; intro _ _))
  k_with "subscriptTail" => (k_here; (with_reducible show wpAny _ _ (subscriptTail _ _ (Value.ref _) (Value.int (-1) _)) _ _ _); (with_unfolding_all refine' tup_last (by k_extra "m tup") (by first | assumption | rfl) ?_ (by with_unfolding_all rfl); k_whole))
  k_with "subscriptTail" => (k_here; (with_reducible show wpAny _ _ (subscriptTail _ _ (Value.ref _) (Value.int _ _)) _ _ _); (with_unfolding_all apply tup_at); (case ht => k_extra "m tup"); (first | ((case hk => with_unfolding_all rfl); (case hx => first | assumption | rfl)) | ((case hx => assumption); (case hk => omega))); (case hf => first | decide | omega); (case hs => with_unfolding_all rfl); k_whole)
  k_with "subscriptTail" => (k_here; (with_reducible show wpAny _ _ (subscriptTail _ _ (Value.ref _) (Value.int _ _)) _ _ _); (with_unfolding_all apply list_at); (case ht => k_extra "m list"); (first | ((case hk => with_unfolding_all rfl); (case hx => first | assumption | rfl)) | ((case hx => assumption); (case hk => omega))); (case hf => first | decide | omega); (case hs => with_unfolding_all rfl); k_whole)
  k_with "k inst" => exact instAt_base (by assumption) (by assumption) (by assumption)
  k_with "m stays" => first | with_reducible assumption | exact stays_fr (by with_reducible assumption) (by with_reducible assumption)
  k_with "m calm" => exact Calm.le (by assumption) (by decide)
  k_with "m kept" => ((rename Fr _ _ _ _ => kF'); (rename News _ _ _ _ => kN'); (refine kept_of (by with_reducible assumption) kF' kN' ?_); clear kF' kN'; intro _ _; (try dsimp only); (try k_fold))
  trivial
section
theorem off15 : True := by
  w_top off
  trivial
/-! ## list comprehensions over anything that walks -/
section
variable {prog : Program} {w : World} {A : Around} {E : Value → Shared → Prop} {s : Shared}

noncomputable abbrev CompTests (prog : Program) (w : World) (A : Around) (ifs : List Expr) (elt : Expr) (cenv : Env) (K : Option Value → Shared → Prop) (E : Value → Shared → Prop) (s : Shared) : Prop :=
  wpAny (model prog w) A (forIn ifs true fun c r => if r = true then do let ok ← isTrue c cenv (eval c cenv); pure (ForInStep.yield ok) else pure (ForInStep.yield r)) (fun ok s₃ =>
    if ok = true then wpAny (model prog w) A (eval elt cenv) (fun y s₄ => K (some y) s₄) E s₃ else K none s₃) E s
noncomputable def CompItem (prog : Program) (w : World) (A : Around) (target : Expr) (ifs : List Expr) (elt : Expr) (cenv : Env) (it v : Value) (K : Option Value → Shared → Prop) (E : Value → Shared → Prop) (s : Shared) : Prop :=
  wpAny (model prog w) A (letOwnedTupleGo target it v) (fun _ s₁ => wpAny (model prog w) A (assign target cenv v) (fun _ s₂ => CompTests prog w A ifs elt cenv K E s₂) E s₁) E s

theorem compLoop_gen {elt target iter : Expr} {ifs : List Expr} {scope : Scope} {pos : Pos} {it acc : Value} {env : Env} {R : Result → Shared → Prop} (I : Nat → Shared → Prop)
    (turn : ∀ n s, I n s → wpAny (model prog w) A (pyNext it) (fun r s₁ => match r with
      | none => R (.ok .next) s₁
      | some v => CompItem prog w A target ifs elt env it v (fun r s₂ => match r with
          | none => ∃ m, m < n ∧ I m s₂
          | some y => wpAny (model prog w) A (call (.builtin "list.append") [acc, y]) (fun _ s₅ => ∃ m, m < n ∧ I m s₅) (notedBy (model prog w) A env fun e s' => R (.error e) s') s₂)
          (notedBy (model prog w) A env fun e s' => R (.error e) s') s₁) (notedBy (model prog w) A env fun e s' => R (.error e) s') s)
    (n : Nat) (h : I n s) : codeAny (model prog w) A (.compLoop (.ListComp elt [⟨target, iter, ifs, 0⟩] scope pos) 0 it acc env) R s := by
  refine codeAny_loop rfl I (fun n s hI => ?_) n h
  show wpAny _ A ((compTurn (.ListComp elt [⟨target, iter, ifs, 0⟩] scope pos) 0 it acc env).onRaise (fun x => do noteFrame x env; theTreesLotGoes x)) _ _ s
  refine wpAny_noted ?_
  rw [compTurn_list]
  refine wpAny_bind (wpAny_standAt (wpAny_bind (wpAny_mono (turn n s hI) (fun r s₁ h₁ => ?_) fun _ _ h' => h')))
  cases r with
  | none => exact wpAny_pure h₁
  | some v =>
    refine wpAny_bind (wpAny_mono h₁ (fun _ s₀ h₀ => ?_) fun _ _ h' => h')
    refine wpAny_bind (wpAny_mono h₀ (fun _ s₂ h₂ => wpAny_bind (wpAny_mono h₂ (fun ok s₃ h₃ => ?_) fun _ _ h' => h')) fun _ _ h' => h')
    cases ok with
    | false => exact wpAny_pure ⟨rfl, h₃⟩
    | true =>
      exact wpAny_bind (wpAny_bind (wpAny_mono h₃ (fun x s₄ h₄ => wpAny_bind (wpAny_mono h₄ (fun _ s₅ h₅ => wpAny_pure (wpAny_pure ⟨rfl, h₅⟩)) fun _ _ h' => h')) fun _ _ h' => h'))

theorem hideAll_mono {l : List Addr} {h h' : Heap} (k : StaysBut l h h') : Stays (hideAll h l) (hideAll h' l) := fun b o e => by
  have e1 := of_hideAll l e
  by_cases hb : b ∈ l
  · rw [hideAll_none l hb] at e; cases e
  · exact hideAll_get l (k b o hb e1) hb

/-- what a comprehension's source must bring, and what it hands on -/
inductive CompSrc' (prog : Program) (w : World) (A : Around) (env : Env) (target : Expr) (ifs : List Expr) (elt : Expr) (scope : Scope) (cl : List (PySem.Str × Addr)) (Q : Value → Shared → Prop) (it : Value) (s₂ : Shared) : Prop
  | mk (I : Nat) (fp : List Nat) (n : Nat) (P : Nat → Value → Prop) (St : Nat → Heap → Prop) (S : List Nat) (J : Nat → List Value → Heap → Prop) (g0 : Heap) (a0 : it = .ref I) (a1 : Walks prog w A I fp [I] n P St) (a2 : n ≤ sizeLine) (a3 : St 0 s₂.heap) (a4 : ∀ b ∈ fp, @LT.lt Nat _ b s₂.heap.objs.size) (a5 : ∀ b ∈ S, b ∉ fp ∧ @LT.lt Nat _ b s₂.heap.objs.size) (a6 : ∀ i ys h h', Stays h h' → J i ys h → J i ys h') (a7 : J 0 [] g0) (a8 : Stays g0 s₂.heap) (a9 : g0.get? I = none) (a10 : ∀ i v (C D : Nat) ys h tk m E', i < n → P i v → s₂.heap.objs.size ≤ C → s₂.heap.objs.size ≤ D → C ≠ D → St (i + 1) h → h.Ns C m → h.PlainList D (List.toArray ys) → StaysBut (I :: S) s₂.heap h → J i ys (hideAll h [I, C, D]) → CompItem prog w A target ifs elt (compEnvC scope cl C env) (.ref I) v (fun r s' => ∃ h' tk' m', s' = { s₂ with heap := h', toks := tk' } ∧ h'.Ns C m' ∧ StaysBut (C :: S) h h' ∧ J (i + 1) (ys ++ r.toList) (hideAll h' [I, C, D])) E' { s₂ with heap := h, toks := tk }) (a11 : ∀ (D : Nat) h' tk ys, s₂.heap.objs.size ≤ D → h'.PlainList D (List.toArray ys) → ys.length ≤ n → J n ys h' → StaysBut (I :: S) s₂.heap h' → Q (.ref D) { s₂ with heap := h', toks := tk }) : CompSrc' prog w A env target ifs elt scope cl Q it s₂
inductive CompAt (s₂ : Shared) (n : Nat) (St : Nat → Heap → Prop) (D C I : Nat) (S : List Nat) (J : Nat → List Value → Heap → Prop) (k : Nat) (s' : Shared) : Prop
  | mk (h' : Heap) (tk i : Nat) (ys : List Value) (m' : PySem.Str → Option Value) (e : s' = { s₂ with heap := h', toks := tk }) (hi : i ≤ n) (hk : k = n + 1 - i) (hl : ys.length ≤ i) (hs : St i h') (hp : h'.PlainList D (List.toArray ys)) (hn : h'.Ns C m') (hb : StaysBut (I :: S) s₂.heap h') (j : J i ys (hideAll h' [I, C, D])) : CompAt s₂ n St D C I S J k s'
theorem comp_gen {env : Env} {elt iter target : Expr} {ifs : List Expr} {scope : Scope} {cl : List (PySem.Str × Addr)} {pos : Pos} {Q : Value → Shared → Prop}
    (hclos : closureFor scope env = pure cl) (hcell : ∀ y ∈ scope.names, y.2 ≠ .cell) (hkind : scope.kind = .function)
    (hnames : ∀ y ∈ scope.names, y.2 = .local → scope.names.lookup y.1 = some .local)
    (h : wpAny (model prog w) A (eval iter env) (fun xv s₁ => wpAny (model prog w) A (pyIter xv) (fun it s₂ => CompSrc' prog w A env target ifs elt scope cl Q it s₂) E s₁) E s)
    (hs : ∀ x, foldedSetIterable iter env x = pure x := by intro _; rfl) :
    wpAny (model prog w) A (eval (.ListComp elt [⟨target, iter, ifs, 0⟩] scope pos) env) Q E s := by
  rw [eval_ListComp]
  refine wpAny_comprehension_free (use := none) rfl hs hclos hkind hnames (wpAny_mono h (fun xv s₁ h₁ => wpAny_mono h₁ (fun it s₂ h₂ => ?_) fun _ _ e => e) fun _ _ e => e)
  obtain ⟨I, fp, n, P, St, S, J, g0, rfl, W, hsz, hst, hfp, hS, hJ, hJ0, hg0, hgI, hitem, hQ⟩ := h₂
  refine wpAny_newObj_type (wpAny_newFunctionEnv hcell (by intro y hy; simp at hy) (fun h₁ hns₁ hsb₁ => ?_) hkind)
  dsimp only at hns₁ hsb₁ ⊢
  generalize hH2 : s₂.heap.push { cls := .type "list", dict := none, data := .seq ([] : List Value).toArray } = H2 at hns₁ hsb₁ ⊢
  have hC : H2.objs.size = s₂.heap.objs.size + 1 := by rw [← hH2, Heap.size_push]
  generalize hDd : (s₂.heap.objs.size : Nat) = D at *
  generalize hCc : (H2.objs.size : Nat) = C at *
  have hDC : D ≠ C := by omega
  have below : ∀ b : Nat, b < D → b ≠ C ∧ b ≠ D := fun b hb => ⟨by omega, by omega⟩
  have hDf : D ∉ fp := fun hm => Nat.lt_irrefl _ (hfp _ hm)
  have hCf : C ∉ fp := fun hm => by have := hfp _ hm; omega
  have hIf : I ∈ fp := W.sub I (.head _)
  have hIlt : I < D := hfp I hIf
  have hlt : ∀ (b : Nat) o, s₂.heap.get? b = some o → b < D := fun b o e => hDd ▸ Heap.lt_size e
  have old : Stays s₂.heap h₁ := fun b o e => hsb₁.extBut b o (below b (hlt b o e)).1 (Heap.get?_push_of_some _ (hH2 ▸ Heap.get?_push_of_some _ e))
  have hacc : h₁.PlainList D (List.toArray []) := ⟨_, hsb₁.extBut _ _ hDC (Heap.get?_push_of_some _ (hH2 ▸ (hDd ▸ Heap.get?_push_size _ rfl)))⟩
  have hst₁ : St 0 h₁ := W.frame _ _ _ hst fun b _ o e => old b o e
  have hDS : D ∉ S := fun hm => Nat.lt_irrefl _ (hS _ hm).2
  have hCS : C ∉ S := fun hm => by have := (hS _ hm).2; omega
  have loop : ∀ s₃ : Shared, s₃ = { s₂ with heap := h₁, toks := s₂.toks + ([] : List (PySem.Str × Value)).length } →
      codeAny (model prog w) A (.compLoop (.ListComp elt [⟨target, iter, ifs, 0⟩] scope pos) 0 (.ref I) (.ref D) (compEnvC scope cl C env))
        (compPost (model prog w) A E none Q (.ref D) C) s₃ := by
    rintro s₃ rfl
    refine compLoop_gen
      (CompAt s₂ n St D C I S J) ?_ (n + 1)
      ⟨h₁, _, 0, [], _, rfl, Nat.zero_le _, rfl, Nat.le_refl _, hst₁, hacc, hns₁, fun b o _ e => old b o e, ?_⟩
    · rintro k s' ⟨h', tk, i, ys, m', rfl, hi, rfl, hyl, hst', hacc', hn', hk', hJ'⟩
      by_cases hin : i < n
      · refine W.item i _ _ _ hin hst' fun v h₂ tk₂ hPv hst₂ hk₂ => ?_
        have hk₂' : ∀ (b : Nat) o, b ≠ I → h'.get? b = some o → h₂.get? b = some o := fun b o hb e => hk₂ b o (by simpa using hb) e
        have hacc₂ : h₂.PlainList D (List.toArray ys) := hacc'.at fun o e => hk₂' _ o (by omega) e
        have hn₂ : h₂.Ns C m' := hn'.at' fun o e => hk₂' _ o (by omega) e
        have hk2 : StaysBut (I :: S) s₂.heap h₂ := fun b o hb e => hk₂' b o (fun q => hb (q ▸ .head _)) (hk' b o hb e)
        have hJ2 : J i ys (hideAll h₂ [I, C, D]) := hJ _ _ _ _ (hideAll_mono fun b o hb e => hk₂' b o (fun q => hb (q ▸ .head _)) e) hJ'
        refine wpAny_mono (hitem i v C D ys h₂ tk₂ m' _ hin hPv (by omega) (by omega) hDC.symm hst₂ hn₂ hacc₂ hk2 hJ2) (fun _ s₄ h₄ => wpAny_mono h₄ (fun _ s₅ h₅ => wpAny_mono h₅ (fun ok s₆ h₆ => ?_) fun _ _ e => e) fun _ _ e => e) fun _ _ e => e
        have fin : ∀ (r : Option Value) (s₇ : Shared), (∃ h' tk' m', s₇ = { s₂ with heap := h', toks := tk' } ∧ h'.Ns C m' ∧ StaysBut (C :: S) h₂ h' ∧ J (i + 1) (ys ++ r.toList) (hideAll h' [I, C, D])) →
            (match r with
              | none => ∃ m, m < n + 1 - i ∧ CompAt s₂ n St D C I S J m s₇
              | some y => wpAny (model prog w) A (call (.builtin "list.append") [.ref D, y]) (fun _ s₅ => ∃ m, m < n + 1 - i ∧ CompAt s₂ n St D C I S J m s₅)
                  (notedBy (model prog w) A (compEnvC scope cl C env) fun e s' => compPost (model prog w) A E none Q (.ref D) C (.error e) s') s₇) := by
          rintro r s₇ ⟨h₃, tk₃, m₃, rfl, hn₃, hk₃, hJ₃⟩
          have hst₃ : St (i + 1) h₃ := W.frame _ _ _ hst₂ fun b hb o e => hk₃ b o (fun q => by
            rcases List.mem_cons.mp q with rfl | q
            · exact hCf hb
            · exact (hS b q).1 hb) e
          have hacc₃ : h₃.PlainList D (List.toArray ys) := hacc₂.at fun o e => hk₃ _ o (fun q => by
            rcases List.mem_cons.mp q with q | q
            · exact hDC q
            · exact hDS q) e
          have hk3 : StaysBut (I :: S) s₂.heap h₃ := fun b o hb e => hk₃ b o (fun q => by
            rcases List.mem_cons.mp q with rfl | q
            · exact absurd (hlt _ o e) (by omega)
            · exact hb (.tail _ q)) (hk2 b o hb e)
          cases r with
          | none =>
            exact ⟨n + 1 - (i + 1), by omega, h₃, tk₃, i + 1, ys, m₃, rfl, by omega, rfl, by omega, hst₃, hacc₃, hn₃, hk3, by simpa using hJ₃⟩
          | some y =>
            refine wpAny_list_append_plain hacc₃ (fun h₄ hl₄ hs₄ => ?_) (by simp; omega)
            refine ⟨n + 1 - (i + 1), by omega, h₄, tk₃, i + 1, ys ++ [y], m₃, rfl, by omega, rfl, by simp; omega, W.frame _ _ _ hst₃ fun b hb o e => hs₄.extBut b o (fun q => hDf (q ▸ hb)) e, ?_, hn₃.sameBut hs₄ hDC.symm, fun b o hb e => hs₄.extBut b o ?_ (hk3 b o hb e), ?_⟩
            · simpa using hl₄
            · exact fun q => by have := hlt b o e; rw [q] at this; omega
            · exact hJ _ _ _ _ (hideAll_mono fun b o hb e => hs₄.extBut b o (fun q => hb (q ▸ .tail _ (.tail _ (.head _)))) e) hJ₃
        cases ok with
        | false => exact fin none s₆ h₆
        | true => exact wpAny_mono h₆ (fun y s₇ h₇ => fin (some y) s₇ h₇) fun _ _ e => e
      · obtain rfl : i = n := by omega
        refine W.done _ _ _ hst' fun h₂ tk₂ hk₂ => ?_
        have hk₂' : ∀ (b : Nat) o, b ≠ I → h'.get? b = some o → h₂.get? b = some o := fun b o hb e => hk₂ b o (by simpa using hb) e
        have hacc₂ : h₂.PlainList D (List.toArray ys) := hacc'.at fun o e => hk₂' _ o (by omega) e
        have hn₂ : h₂.Ns C m' := hn'.at' fun o e => hk₂' _ o (by omega) e
        refine ⟨m', hn₂, fun h₃ hs₃ => hQ D h₃ tk₂ ys (by omega) (hacc₂.extBut hs₃.extBut hDC) hyl ?_ ?_⟩
        · refine hJ _ _ _ _ (fun b o e => ?_) hJ'
          have hb : b ∉ [I, C, D] := fun q => by rw [hideAll_none _ q] at e; cases e
          exact hs₃.extBut b o (fun q => hb (q ▸ .tail _ (.head _))) (hk₂' b o (fun q => hb (q ▸ .head _)) (of_hideAll _ e))
        · exact fun b o hb e => hs₃.extBut b o (fun q => by have := hlt b o e; rw [q] at this; omega) (hk₂' b o (fun q => hb (q ▸ .head _)) (hk' b o hb e))
    · refine hJ _ _ _ _ (fun b o e => hideAll_get _ (old b o (hg0 b o e)) fun q => ?_) hJ0
      have hb := hlt b o (hg0 b o e)
      rcases List.mem_cons.mp q with rfl | q
      · rw [hgI] at e; cases e
      rcases List.mem_cons.mp q with rfl | q
      · omega
      · rw [List.mem_singleton.mp q] at hb; omega
  exact codeAny_compStart_list (loop _ rfl) (W.self 0 _ _ _ hst₁ (loop _ rfl))
end

/-! ## comprehensions over pairs, that change nothing -/
noncomputable def TupStays (h h' : Heap) : Prop := ∀ b o xs n, h.get? b = some o → o.cls = .type "tuple" → o.data = .seq xs n → h'.get? b = some o
theorem Stays.tup {h h' : Heap} (k : Stays h h') : TupStays h h' := fun b o _ _ e _ _ => k b o e
theorem PairAt.tup {h h' : Heap} {v : Value} {r : Int × Int} (k : TupStays h h') (x : PairAt h v r) : PairAt h' v r := by
  obtain ⟨p, t1, t2, e, o, ho, hc, n, hd⟩ := x
  exact ⟨p, t1, t2, e, o, k p o _ n ho hc hd, hc, n, hd⟩
theorem Prs.tup {h h' : Heap} (k : TupStays h h') : ∀ {vs : List Value} {rs : Rng}, Prs h vs rs → Prs h' vs rs
  | [], [], _ => trivial
  | _ :: _, _ :: _, x => ⟨x.1.tup k, x.2.tup k⟩
theorem DomAt.tup {h h' : Heap} {v : Value} {r : Rng} (k : TupStays h h') (x : DomAt h v r) : DomAt h' v r := by
  obtain ⟨a, vs, e, ⟨o, ho, hc, n, hd⟩, p⟩ := x
  exact ⟨a, vs, e, ⟨o, k a o _ n ho hc hd, hc, n, hd⟩, p.tup k⟩
theorem tup_hide {h : Heap} {l : List Addr} (k : ∀ b ∈ l, ∀ o xs n, h.get? b = some o → o.cls = .type "tuple" → o.data = .seq xs n → False) : TupStays h (hideAll h l) :=
  fun b o xs n e c d => hideAll_get l e fun q => k b q o xs n e c d

section
variable {prog : Program} {w : World} {A : Around} {E : Value → Shared → Prop} {s : Shared}

theorem letOwned_quiet {elts : List Expr} {x1 : Nat} {pos : Pos} {I : Addr} {v : Value} {o : Obj} {Q : Unit → Shared → Prop} (ho : s.heap.get? I = some o) (hc : o.cls = .type "tuple_iterator" ∨ o.cls = .type "list_iterator") (hQ : Q () s) :
    wpAny (model prog w) A (letOwnedTupleGo (.Tuple elts x1 pos) (.ref I) v) Q E s := by
  unfold letOwnedTupleGo
  cases v with
  | ref T =>
    refine wpAny_bind (wpAny_load ho ?_)
    obtain ⟨c, d, dt, sl⟩ := o
    dsimp only at hc ⊢
    rcases hc with rfl | rfl <;> cases dt <;> first | exact wpAny_pure hQ | (dsimp only; rw [if_neg (by simp)]; exact wpAny_pure hQ)
  | _ => exact wpAny_pure hQ

theorem assign_pair {env : Env} {a b : PySem.Str} {pa pb tp : Pos} {kk : Nat} {T : Addr} {x y : Value} {m : PySem.Str → Option Value} {Q : Unit → Shared → Prop} (hh : A.handled = none) (ht : IsTup s.heap T #[x, y])
    (ha : env.kindOf a = some .local) (hb : env.kindOf b = some .local) (hp : (env.scope.kind == .class || (env.scope.kind == .module && env.locals != env.globals)) = false) (hn : s.heap.Ns env.locals m)
    (h : ∀ (h' : Heap) (tk : Nat), h'.Ns env.locals (fun z => if z = b then some y else if z = a then some x else m z) → (∀ c o, c ≠ env.locals → s.heap.get? c = some o → h'.get? c = some o) → Q () { s with heap := h', toks := tk }) :
    wpAny (model prog w) A (assign (.Tuple [.Name a pa, .Name b pb] kk tp) env (.ref T)) Q E s := by
  refine wpAny_assign_Tuple (items := #[x, y]) hh ht rfl rfl fun h₁ he₁ => ?_
  have hL : @Ne Nat env.locals s.heap.objs.size := Nat.ne_of_lt hn.lt
  have hn₁ : h₁.Ns env.locals m := hn.at' fun o e => he₁ _ o hL e
  have up₁ : ∀ c o, s.heap.get? c = some o → h₁.get? c = some o := fun c o e => he₁ c o (Nat.ne_of_lt (Heap.lt_size e)) e
  show wpAny _ _ (assignInOrder [assign (.Name a pa) env, assign (.Name b pb) env] [x, y]) _ _ _
  refine assignInOrder_cons ?_
  refine wpAny_assign_Name (wpAny_storeName_local ha hn₁ (fun h₂ hn₂ hs₂ => ?_) hp)
  refine assignInOrder_cons ?_
  refine wpAny_assign_Name (wpAny_storeName_local hb hn₂ (fun h₃ hn₃ hs₃ => ?_) hp)
  refine assignInOrder_nil ?_
  exact h h₃ _ hn₃ fun c o hc e => hs₃.extBut c o hc (hs₂.extBut c o hc (up₁ c o e))

theorem fresh_of_size {h : Heap} {D : Nat} (k : h.objs.size ≤ D) : h.get? D = none := by
  cases q : h.get? D with
  | none => rfl
  | some o => have : @LT.lt Nat _ D h.objs.size := Heap.lt_size q; omega
/-- an element's end: every object keeps, and P of the heap -/
noncomputable def ItemEnd (s₁ : Shared) (h : Heap) (P : Heap → Prop) (s' : Shared) : Prop := ∃ h' tk', s' = { s₁ with heap := h', toks := tk' } ∧ Stays h h' ∧ P h'
inductive CompPairsSrc (prog : Program) (w : World) (A : Around) (env : Env) (a b : PySem.Str) (ifs : List Expr) (elt : Expr) (scope : Scope) (cl : List (PySem.Str × Addr)) (G : Int × Int → Option Value → Heap → Prop) (Q : Value → Shared → Prop) (xv : Value) (s₁ : Shared) : Prop
  | mk (t : Addr) (vs : List Value) (rs : Rng) (a0 : xv = .ref t) (a1 : (IsTup s₁.heap t (List.toArray vs) ∨ s₁.heap.IsList t (List.toArray vs))) (a2 : Prs s₁.heap vs rs) (a3 : rs.length ≤ sizeLine) (a4 : ∀ r (C : Nat) h tk m t1 t2 E', r ∈ rs → Stays s₁.heap h → h.Ns C m → m a = some (.int r.1 t1) → m b = some (.int r.2 t2) → CompTests prog w A ifs elt (compEnvC scope cl C env) (fun o s' => ItemEnd s₁ h (G r o) s') E' { s₁ with heap := h, toks := tk }) (a5 : ∀ (D : Nat) h' tk (os : List (Option Value)), s₁.heap.get? D = none → h'.PlainList D (List.toArray (os.filterMap id)) → os.length = rs.length → (∀ (j : Nat) r o, rs[j]? = some r → os[j]? = some o → G r o h') → Stays s₁.heap h' → Q (.ref D) { s₁ with heap := h', toks := tk }) : CompPairsSrc prog w A env a b ifs elt scope cl G Q xv s₁
theorem comp_pairs {env : Env} {elt iter : Expr} {a b : PySem.Str} {pa pb tp : Pos} {kk : Nat} {ifs : List Expr} {scope : Scope} {cl : List (PySem.Str × Addr)} {pos : Pos} {Q : Value → Shared → Prop}
    (G : Int × Int → Option Value → Heap → Prop) (hG : ∀ r o h h', TupStays h h' → G r o h → G r o h') (hh : A.handled = none)
    (h : wpAny (model prog w) A (eval iter env) (fun xv s₁ => CompPairsSrc prog w A env a b ifs elt scope cl G Q xv s₁) E s)
    (hclos : closureFor scope env = pure cl := by with_unfolding_all rfl) (hcell : ∀ y ∈ scope.names, y.2 ≠ .cell := by decide) (hkind : scope.kind = .function := by rfl)
    (hnames : ∀ y ∈ scope.names, y.2 = .local → scope.names.lookup y.1 = some .local := by decide) (ha : scope.names.lookup a = some .local := by rfl) (hb : scope.names.lookup b = some .local := by rfl) (hab : a ≠ b := by decide)
    (hs : ∀ x, foldedSetIterable iter env x = pure x := by intro _; rfl) :
    wpAny (model prog w) A (eval (.ListComp elt [⟨.Tuple [.Name a pa, .Name b pb] kk tp, iter, ifs, 0⟩] scope pos) env) Q E s := by
  refine comp_gen hclos hcell hkind hnames (wpAny_mono h (fun xv s₁ h₁ => ?_) fun _ _ e => e) hs
  obtain ⟨t, vs, rs, rfl, hsrc, hp, hsz, hitem, hQ⟩ := h₁
  have hlen := hp.length
  have hget : ∀ (b : Nat) o, s₁.heap.get? b = some o → @LT.lt Nat _ b s₁.heap.objs.size := fun b o e => Heap.lt_size e
  have main : ∀ (I : Nat) (s₂ : Shared) (cls : String) (St : Nat → Heap → Prop) (oI : Obj), I = s₁.heap.objs.size → s₂ = { s₁ with heap := s₁.heap.push oI } → oI.isFreed = false →
      Walks prog w A I [I, t] [I] (List.toArray vs).size (fun i v => (List.toArray vs)[i]? = some v) St → St 0 s₂.heap → (∃ ot, s₁.heap.get? t = some ot) →
      (∀ i h, St i h → ∃ o, h.get? I = some o ∧ (o.cls = .type "tuple_iterator" ∨ o.cls = .type "list_iterator")) →
      CompSrc' prog w A env (.Tuple [.Name a pa, .Name b pb] kk tp) ifs elt scope cl Q (.ref I) s₂ := by
    rintro I s₂ cls St oI hI rfl hfr W hst ⟨ot, hot⟩ hit
    have hsz2 : (s₁.heap.push oI).objs.size = s₁.heap.objs.size + 1 := Heap.size_push _ _
    have hIn : s₁.heap.get? I = none := by
      cases q : s₁.heap.get? I with
      | none => rfl
      | some o => exact absurd (hget _ _ q) (by omega)
    have up : Stays s₁.heap (s₁.heap.push oI) := fun b o e => Heap.get?_push_of_some _ e
    refine ⟨I, [I, t], _, _, St, [], fun i ys h => ∃ os : List (Option Value), os.length = i ∧ ys = os.filterMap id ∧ (∀ (j : Nat) r o, rs[j]? = some r → os[j]? = some o → G r o h) ∧ Stays s₁.heap h, s₁.heap, rfl, W, by simp; omega, hst, ?_, (fun _ hb => by cases hb),
      fun i ys h h' k ⟨os, e1, e2, e3, e4⟩ => ⟨os, e1, e2, fun j r o hr ho => hG _ _ _ _ k.tup (e3 j r o hr ho), fun b o e => k b o (e4 b o e)⟩, ⟨[], rfl, rfl, fun j r o _ ho => by simp at ho, fun _ _ e => e⟩, up, hIn, ?_, ?_⟩
    · intro b hb
      show @LT.lt Nat _ b (s₁.heap.push oI).objs.size
      rw [hsz2]
      rcases List.mem_cons.mp hb with rfl | hb
      · omega
      · rw [List.mem_singleton.mp hb]; have := hget _ _ hot; omega
    · rintro i v C D ys h tk m E' hin hv hC hD hCD hst' hn hacc hk ⟨os, e1, e2, e3, e4⟩
      have hC' : s₁.heap.objs.size + 1 ≤ C := by have : (s₁.heap.push oI).objs.size ≤ C := hC; omega
      have hD' : s₁.heap.objs.size + 1 ≤ D := by have : (s₁.heap.push oI).objs.size ≤ D := hD; omega
      obtain ⟨o, hoI, hcI⟩ := hit _ _ hst'
      have hkk : Stays s₁.heap h := fun b o e => hk b o (fun q => by rw [List.mem_singleton.mp q, hIn] at e; cases e) (up b o e)
      have hv' : vs[i]? = some v := by simpa using hv
      obtain ⟨r, hr, p, t1, t2, rfl, htp⟩ := hp.get hv'
      refine letOwned_quiet hoI hcI ?_
      refine assign_pair hh (htp.keeps hkk) (lookup_relabel_local ha) (lookup_relabel_local hb) (by simp [compEnvC, relabel, hkind]) hn fun h₅ tk₅ hn₅ hk₅ => ?_
      have hk5 : Stays s₁.heap h₅ := fun b o e => hk₅ b o (fun q => by
        have q' : @Eq Nat b C := q
        have q2 := hget b o e; omega) (hkk b o e)
      refine wpAny_mono (hitem r C h₅ tk₅ _ t1 t2 _ (List.mem_of_getElem? hr) hk5 hn₅ ?_ ?_) (fun ok s₆ h₆ => ?_) fun _ _ e => e
      · simp [hab]
      · simp
      · have fin : ∀ (o : Option Value) s', (∃ h' tk', s' = { s₁ with heap := h', toks := tk' } ∧ Stays h₅ h' ∧ G r o h') → ∃ h' tk' m', s' = { ({ s₁ with heap := s₁.heap.push oI } : Shared) with heap := h', toks := tk' } ∧ h'.Ns C m' ∧ StaysBut [C] h h' ∧
            ∃ os : List (Option Value), os.length = i + 1 ∧ ys ++ o.toList = os.filterMap id ∧ (∀ (j : Nat) r o, rs[j]? = some r → os[j]? = some o → G r o (hideAll h' [I, C, D])) ∧ Stays s₁.heap (hideAll h' [I, C, D]) := by
          rintro o' s' ⟨h', tk', rfl, hk', hg⟩
          have hkC : StaysBut [C] h h' := fun b o hb e => hk' b o (hk₅ b o (fun q => hb (q ▸ .head _)) e)
          have hnC := hn₅.keeps hk'
          refine ⟨h', tk', _, rfl, hnC, hkC, os ++ [o'], by simp [e1], by rw [e2, List.filterMap_append]; cases o' <;> rfl, ?_, ?_⟩
          · have ht : TupStays h' (hideAll h' [I, C, D]) := tup_hide fun b hb ob xs n eb cb db => by
              rcases List.mem_cons.mp hb with rfl | hb
              · have := hkC b o (fun q => by have q1 : @Eq Nat b C := List.mem_singleton.mp q; omega) hoI
                rw [this] at eb; cases eb
                rcases hcI with q | q <;> rw [q] at cb <;> simp at cb
              rcases List.mem_cons.mp hb with rfl | hb
              · obtain ⟨oC, es, ep, a1, a2, _⟩ := hnC
                have a1' : h'.get? b = some oC := a1
                rw [a1'] at eb; cases eb; rw [a2] at db; cases db
              · rw [List.mem_singleton.mp hb] at eb
                obtain ⟨nD, hoD⟩ := hacc
                have := hkC D _ (fun q => hCD (List.mem_singleton.mp q).symm) hoD
                rw [this] at eb; cases eb; simp at cb
            have hj : ∀ (j : Nat) r o, rs[j]? = some r → os[j]? = some o → G r o (hideAll h' [I, C, D]) := fun j r o hr ho => hG _ _ _ _ ?_ (e3 j r o hr ho)
            · intro j r' o'' hr' ho''
              by_cases hji : j < os.length
              · rw [List.getElem?_append_left hji] at ho''
                exact hj j r' o'' hr' ho''
              · by_cases hje : j = os.length
                · subst hje
                  rw [List.getElem?_append_right (Nat.le_refl _)] at ho''
                  simp at ho''
                  subst ho''
                  rw [e1, hr] at hr'
                  cases hr'
                  exact hG _ _ _ _ ht hg
                · rw [List.getElem?_eq_none (by simp; omega)] at ho''
                  cases ho''
            · exact Stays.tup (hideAll_mono fun b o hb e => hkC b o (fun q => hb (List.mem_singleton.mp q ▸ .tail _ (.head _))) e)
          · intro b o e
            have hb := hget _ _ e
            refine hideAll_get _ (hk' b o (hk5 b o e)) fun q => ?_
            rcases List.mem_cons.mp q with q | q
            · have q1 : @Eq Nat b I := q; omega
            rcases List.mem_cons.mp q with q | q
            · have q1 : @Eq Nat b C := q; omega
            · have q1 : @Eq Nat b D := List.mem_singleton.mp q; omega
        cases ok with
        | false => exact fin none s₆ h₆
        | true => exact wpAny_mono h₆ (fun y s₇ h₇ => fin (some y) s₇ h₇) fun _ _ e => e
    · rintro D h' tk ys hD hacc hys ⟨os, e1, e2, e3, e4⟩ hk
      subst e2
      exact hQ D h' tk os (fresh_of_size (by have : (s₁.heap.push oI).objs.size ≤ D := hD; omega)) hacc (by simp at e1; omega) e3 e4
  rcases hsrc with ht | hl
  · refine wpAny_pyIter_tuple ht ?_
    have hlt : @LT.lt Nat _ t s₁.heap.objs.size := by obtain ⟨o, ho, _⟩ := ht; exact hget _ _ ho
    refine main _ _ "tuple_iterator" _ _ rfl rfl rfl (Walks.tuple hh _ t (Nat.ne_of_lt hlt) _) ⟨⟨_, Heap.get?_push_size _ rfl, rfl, rfl⟩, ?_⟩ (by obtain ⟨o, ho, _⟩ := ht; exact ⟨o, ho⟩) ?_
    · obtain ⟨o, ho, r⟩ := ht; exact ⟨o, Heap.get?_push_of_some _ ho, r⟩
    · rintro i h ⟨⟨o, ho, hc, _⟩, _⟩; exact ⟨o, ho, .inl hc⟩
  · refine wpAny_pyIter_list hl ?_
    have hlt : @LT.lt Nat _ t s₁.heap.objs.size := by obtain ⟨o, ho, _⟩ := hl; exact hget _ _ ho
    refine main _ _ "list_iterator" _ _ rfl rfl rfl (Walks.list hh _ t (Nat.ne_of_lt hlt) _) ⟨⟨_, Heap.get?_push_size _ rfl, rfl, rfl⟩, ?_⟩ (by obtain ⟨o, ho, _⟩ := hl; exact ⟨o, ho⟩) ?_
    · obtain ⟨o, ho, r⟩ := hl; exact ⟨o, Heap.get?_push_of_some _ ho, r⟩
    · rintro i h ⟨⟨o, ho, hc, _⟩, _⟩; exact ⟨o, ho, .inr hc⟩
end

end
section
theorem off17 : True := by
  w_top off
  trivial
/-! ## the element of a comprehension -/
/-- the block's own frame C, over a heap B0 that stands -/
structure CF (B0 Hs : Heap) (h : Heap) (C : Nat) (m : PySem.Str → Option Value) : Prop where
  ns : h.Ns C m
  keep : Stays B0 h
  since : Stays Hs h
theorem CF.on {B0 Hs h h' : Heap} {C : Nat} {m : PySem.Str → Option Value} (F : CF B0 Hs h C m) (k : Stays h h') : CF B0 Hs h' C m := ⟨F.ns.keeps k, fun b o e => k b o (F.keep b o e), fun b o e => k b o (F.since b o e)⟩
theorem CF.push {B0 Hs h : Heap} {C : Nat} {m : PySem.Str → Option Value} (F : CF B0 Hs h C m) (o : Obj) : CF B0 Hs (h.push o) C m := F.on fun _ _ e => Heap.get?_push_of_some _ e
theorem mg_max {mean : ExcName → Option Value} {mg mb : PySem.Str → Option Value} {g : Heap} (T : Top VW LO mean mg mb g) : mg (Str.ofString "max") = none :=
  T.free _ (by decide +kernel) (by decide +kernel) (by decide +kernel) (by decide +kernel) (by decide +kernel)
theorem mg_min {mean : ExcName → Option Value} {mg mb : PySem.Str → Option Value} {g : Heap} (T : Top VW LO mean mg mb g) : mg (Str.ofString "min") = none :=
  T.free _ (by decide +kernel) (by decide +kernel) (by decide +kernel) (by decide +kernel) (by decide +kernel)
theorem mb_max {mean : ExcName → Option Value} {mg mb : PySem.Str → Option Value} {g : Heap} (T : Top VW LO mean mg mb g) : mb (Str.ofString "max") = some (.builtin "max") :=
  (T.builtins _ (by decide +kernel)).trans boot_max
theorem mb_min {mean : ExcName → Option Value} {mg mb : PySem.Str → Option Value} {g : Heap} (T : Top VW LO mean mg mb g) : mb (Str.ofString "min") = some (.builtin "min") :=
  (T.builtins _ (by decide +kernel)).trans boot_min

section
variable {M : Model} {prog : Program} {w : World} {A : Around} {E : Value → Shared → Prop} {s : Shared} {scope : Scope} {cl : List (PySem.Str × Addr)} {C : Nat} {env : Env} {B0 Hs g : Heap} {m mg mb : PySem.Str → Option Value} {mean : ExcName → Option Value} {Q : Value → Shared → Prop}
theorem comp_local {x : PySem.Str} {pos : Pos} {v : Value} (F : CF B0 Hs s.heap C m) (hm : m x = some v) (h : Q v s) (hk : scope.kind = .function := by rfl)
    (hl : (compEnvC scope cl C env).kindOf x = some .local := by with_unfolding_all rfl) (hd : (x == ("__debug__" : PySem.Str)) = false := by decide) :
    wpAny M A (eval (.Name x pos) (compEnvC scope cl C env)) Q E s := wpAny_Name (wpAny_loadName_local hk hl F.ns hm h) hd
theorem comp_cell {x : PySem.Str} {pos : Pos} {v : Value} {c : Addr} {o : Obj} (F : CF B0 Hs s.heap C m) (hc : cl.lookup x = some c) (ho : B0.get? c = some o) (hv : o.data = .cell (some v)) (h : Q v s) (hk : scope.kind = .function := by rfl)
    (hl : (compEnvC scope cl C env).kindOf x = some .cell := by with_unfolding_all rfl) (hd : (x == ("__debug__" : PySem.Str)) = false := by decide) :
    wpAny M A (eval (.Name x pos) (compEnvC scope cl C env)) Q E s := wpAny_Name (wpAny_loadName_cell hk hl hc ⟨o, F.keep _ _ ho, hv⟩ h) hd
theorem comp_builtin {x : PySem.Str} {pos : Pos} {v : Value} (F : CF B0 Hs s.heap C m) (T : Top VW LO mean mg mb g) (k : Stays g B0) (h1 : mg x = none) (h2 : mb x = some v) (h : Q v s) (hg : env.globals = mainGlobals := by rfl) (hb : env.builtins = builtinsNs := by rfl)
    (hk : scope.kind = .function := by rfl) (hx : (compEnvC scope cl C env).kindOf x = some .globalImplicit := by with_unfolding_all rfl) (hd : (x == ("__debug__" : PySem.Str)) = false := by decide) :
    wpAny M A (eval (.Name x pos) (compEnvC scope cl C env)) Q E s := by
  have kk : Stays g s.heap := fun b o e => F.keep b o (k b o e)
  refine Name_function_global hk hx (loadGlobal_builtin (env := compEnvC scope cl C env) (mg := mg) (mb := mb) ?_ h1 ?_ h2 h) hd
  · show s.heap.Ns env.globals mg
    rw [hg]; exact T.g.keeps kk
  · show s.heap.Ns env.builtins mb
    rw [hb]; exact T.b.keeps kk
theorem comp_max {a b : Int} {t u : Tok} (F : CF B0 Hs s.heap C m) (hh : A.handled = none) (h : ∀ h' tk t', CF B0 Hs h' C m → Stays s.heap h' → Q (.int (max a b) t') { s with heap := h', toks := tk }) :
    wpAny (model prog w) A (call (.builtin "max") [.int a t, .int b u]) Q E s :=
  max_two_ints hh fun h' tk hk => by
    by_cases c : b > a
    · rw [if_pos c]; have := h h' tk u (F.on hk) hk; rwa [Int.max_eq_right (by omega)] at this
    · rw [if_neg c]; have := h h' tk t (F.on hk) hk; rwa [Int.max_eq_left (by omega)] at this
theorem comp_min {a b : Int} {t u : Tok} (F : CF B0 Hs s.heap C m) (hh : A.handled = none) (h : ∀ h' tk t', CF B0 Hs h' C m → Stays s.heap h' → Q (.int (min a b) t') { s with heap := h', toks := tk }) :
    wpAny (model prog w) A (call (.builtin "min") [.int a t, .int b u]) Q E s :=
  min_two_ints hh fun h' tk hk => by
    by_cases c : b < a
    · rw [if_pos c]; have := h h' tk u (F.on hk) hk; rwa [Int.min_eq_right (by omega)] at this
    · rw [if_neg c]; have := h h' tk t (F.on hk) hk; rwa [Int.min_eq_left (by omega)] at this
theorem comp_tuple {vs : List Value} (F : CF B0 Hs s.heap C m) (h : ∀ h', CF B0 Hs h' C m → Stays s.heap h' → h'.get? s.heap.objs.size = some { cls := .type "tuple", data := .seq vs.toArray } → Q (.ref s.heap.objs.size) { s with heap := h' }) (hsz : Nat.ble vs.length 8 = true) :
    wpAny M A (newTuple vs) Q E s := wpAny_newObj_type (h _ (F.push _) (fun _ _ e => Heap.get?_push_of_some _ e) (Heap.get?_push_size _ rfl)) (by show vs.toArray.size ≤ sizeLine; rw [List.size_toArray]; exact Nat.le_trans (Nat.le_of_ble_eq_true hsz) (by decide))
end

theorem news_fresh {g h h' : Heap} {L : Addr} {D : Nat} {m : PySem.Str → Option Value} {o : Obj} {news : List (Addr × Obj)} (F : Fr g L h m) (N : News g L h news) (k : Stays h h') (hD : h.get? D = none) (ho : h'.get? D = some o) : News g L h' ((D, o) :: news) := by
  intro p hp
  rcases List.mem_cons.mp hp with rfl | hp
  · refine ⟨ho, fun q => ?_, ?_⟩
    · obtain ⟨oL, _, _, hL, _⟩ := F.ns
      have q1 : D = L := q
      rw [q1, hL] at hD; cases hD
    · cases q : g.get? D with
      | none => rfl
      | some o' => have := F.keep _ _ q; rw [hD] at this; cases this
  · exact ⟨k _ _ (N p hp).1, (N p hp).2⟩
theorem stays_trans {a b c : Heap} (h : Stays a b) (k : Stays b c) : Stays a c := fun x o e => k x o (h x o e)
section
variable {prog : Program} {w : World} {A : Around} {E : Value → Shared → Prop} {s : Shared} {g : Heap} {L : Addr} {m : PySem.Str → Option Value} {Q : Value → Shared → Prop}
theorem tuple_of {l : Addr} {vs : List Value} {news : List (Addr × Obj)} (F : Fr g L s.heap m) (N : News g L s.heap news) (hl : s.heap.IsList l vs.toArray)
    (hsz : vs.length ≤ sizeLine)
    (hQ : ∀ (D : Nat) h', s.heap.get? D = none → Fr g L h' m → News g L h' ((D, { cls := .type "tuple", data := .seq vs.toArray }) :: news) → Stays s.heap h' → Q (.ref D) { s with heap := h' }) :
    wpAny (model prog w) A (call (.type "tuple") [.ref l]) Q E s := by
  refine call_tuple_list hl (fun h' hk => ?_) (by rw [List.size_toArray]; exact hsz)
  have F' : Fr g L h' m := F.keeps hk
  have N' : News g L h' news := fun p hp => ⟨hk _ _ (N p hp).1, (N p hp).2⟩
  refine hQ _ _ ?_ (F'.push _) (N'.push F' _) fun b o e => Heap.get?_push_of_some _ (hk b o e)
  cases q : s.heap.get? h'.objs.size with
  | none => rfl
  | some o => exact absurd (Heap.lt_size (hk _ _ q)) (Nat.lt_irrefl _)
end
noncomputable def OptPair (h : Heap) : Option (Int × Int) → Option Value → Prop
  | some q, o => ∃ y, o = some y ∧ PairAt h y q
  | none, o => o = none
theorem OptPair.tup {h h' : Heap} {q : Option (Int × Int)} {o : Option Value} (k : TupStays h h') (x : OptPair h q o) : OptPair h' q o := by
  cases q with
  | none => exact x
  | some q => obtain ⟨y, e, p⟩ := x; exact ⟨y, e, p.tup k⟩
theorem prs_of_opts {h : Heap} {f : Int × Int → Option (Int × Int)} : ∀ {rs : Rng} {os : List (Option Value)}, os.length = rs.length → (∀ (j : Nat) r o, rs[j]? = some r → os[j]? = some o → OptPair h (f r) o) → Prs h (os.filterMap id) (rs.filterMap f)
  | [], [], _, _ => trivial
  | r :: rs, o :: os, hl, x => by
    have x0 := x 0 r o rfl rfl
    have ih := prs_of_opts (h := h) (f := f) (rs := rs) (os := os) (by simpa using hl) fun j r o hr ho => x (j + 1) r o (by simpa using hr) (by simpa using ho)
    cases hf : f r with
    | none => rw [hf] at x0; cases x0; simpa [List.filterMap_cons, hf] using ih
    | some q =>
      rw [hf] at x0
      obtain ⟨y, rfl, p⟩ := x0
      simpa [List.filterMap_cons, hf, Prs] using ⟨p, ih⟩
theorem opts_len {os : List (Option Value)} {rs : Rng} (h : os.length = rs.length) (hz : rs.length ≤ sizeLine) : (os.filterMap id).length ≤ sizeLine := Nat.le_trans (List.length_filterMap_le _ _) (h ▸ hz)
theorem pair_made {h : Heap} {p : Addr} {a b : Int} {t u : Tok} (e : h.get? p = some { cls := .type "tuple", data := .seq (List.toArray [Value.int a t, Value.int b u]) }) : PairAt h (.ref p) (a, b) := ⟨p, t, u, rfl, _, e, rfl, _, rfl⟩
theorem opt_some {h : Heap} {p : Addr} {c : Prop} [Decidable c] {q : Int × Int} (hc : c) (x : PairAt h (.ref p) q) : OptPair h (if c then some q else none) (some (.ref p)) := by rw [if_pos hc]; exact ⟨_, rfl, x⟩
theorem opt_none {h : Heap} {c : Prop} [Decidable c] {q : Int × Int} (hc : ¬ c) : OptPair h (if c then some q else none) none := by rw [if_neg hc]; rfl
theorem ints_of_opts {f : Int × Int → Int} : ∀ {rs : Rng} {os : List (Option Value)}, os.length = rs.length → (∀ (j : Nat) r o, rs[j]? = some r → os[j]? = some o → ∃ t, o = some (Value.int (f r) t)) → IntsAre (os.filterMap id) (rs.map f)
  | [], [], _, _ => .nil
  | r :: rs, o :: os, hl, h => by
    obtain ⟨t, rfl⟩ := h 0 r o rfl rfl
    exact .cons _ t (ints_of_opts (by simpa using hl) fun j r o hr ho => h (j + 1) r o (by simpa using hr) (by simpa using ho))

end
theorem rows17 : True := by
  k_with "eval Name" => ((with_reducible show wpAny _ _ (eval (Expr.Name _ _) (compEnvC _ _ _ _)) _ _ _); k_dflt first | (apply comp_local; (case F => with_reducible assumption); (case hk => rfl); (case hl => with_unfolding_all rfl); (case hd => decide); (case hm => first | with_reducible assumption | with_unfolding_all rfl); k_whole) | (apply comp_cell; (case F => with_reducible assumption); (case hk => rfl); (case hl => with_unfolding_all rfl); (case hd => decide); (case hc => with_unfolding_all rfl); (case ho => assumption); (case hv => with_reducible assumption); k_whole) | (apply comp_builtin; (case F => with_reducible assumption); (case T => with_reducible assumption); (case k => with_reducible assumption); (case hg => rfl); (case hb => rfl); (case hk => rfl); (case hx => with_unfolding_all rfl); (case hd => decide); (case h2 => first | exact mb_max (by with_reducible assumption) | exact mb_min (by with_reducible assumption)); (case h1 => first | exact mg_max (by with_reducible assumption) | exact mg_min (by with_reducible assumption)); k_whole))
  k_with "call builtin:max" => ((with_reducible show wpAny _ _ (call (Value.builtin _) [Value.int _ _, Value.int _ _]) _ _ _); k_dflt (refine' comp_max (by with_reducible assumption) (by first | exact Calm.hh (by assumption) | with_unfolding_all rfl) ?_; k_whole; intro _ _ _ _ _))
  k_with "call builtin:min" => ((with_reducible show wpAny _ _ (call (Value.builtin _) [Value.int _ _, Value.int _ _]) _ _ _); k_dflt (refine' comp_min (by with_reducible assumption) (by first | exact Calm.hh (by assumption) | with_unfolding_all rfl) ?_; k_whole; intro _ _ _ _ _))
  k_with "newTuple" => (k_dflt (refine' comp_tuple (by with_reducible assumption) ?_ (by rfl); k_whole; intro _ _ _ _))
  k_with "call type:tuple" => ((with_reducible show wpAny _ _ (call (Value.type _) [Value.ref _]) _ _ _); k_dflt (refine' tuple_of (by with_reducible assumption) (by with_reducible assumption) (by k_extra "m list") (by first | assumption | omega) ?_; k_whole; intro _ _ _ _ _ _))
  trivial
section
theorem off20 : True := by
  w_top off
  trivial
section
variable {w : World} {mean : ExcName → Option Value} {mg mb : PySem.Str → Option Value} {B : Heap} {A : Around} {s : Shared} {Q E : Value → Shared → Prop}
theorem least_spec {d p : Addr} {items : List Value} {lo hi : Int} {t1 t2 : Tok}
  (C : Core w mean mg mb B) (hB : Stays B s.heap) (hA : Calm A 1)
  (hd : IsTup s.heap d items.toArray) (hp : items[0]? = some (.ref p)) (hpt : IsTup s.heap p #[.int lo t1, .int hi t2])
  (hret : ∀ h' tk' t, Stays s.heap h' → Q (.int lo t) {s with heap := h', toks := tk'}) :
  wpAny (model PR w) A (call (.ref 77) [.ref d]) Q E s := by
  k_extra "m enter0"
  k_steps
  exact hret _ _ _ (Fr.keep (by assumption))
theorem greatest_spec {d p : Addr} {items : List Value} {lo hi : Int} {t1 t2 : Tok}
  (C : Core w mean mg mb B) (hB : Stays B s.heap) (hA : Calm A 1)
  (hd : IsTup s.heap d items.toArray) (hp : items[items.length - 1]? = some (.ref p)) (hpt : IsTup s.heap p #[.int lo t1, .int hi t2])
  (hret : ∀ h' tk' t, Stays s.heap h' → Q (.int hi t) {s with heap := h', toks := tk'}) :
  wpAny (model PR w) A (call (.ref 84) [.ref d]) Q E s := by
  k_extra "m enter0"
  k_steps
  exact hret _ _ _ (Fr.keep (by assumption))
end

end
theorem rows20 : True := by
  k_with "call ref" => (k_here; (with_reducible show wpAny _ _ (call (Value.ref 77) _) _ _ _); k_dflt (refine' least_spec (by assumption) (by k_extra "m stays") (by k_extra "m calm") (by k_extra "m tup") (by assumption) (by k_extra "m tup") ?_; intro _ _ _ _; k_extra "m kept"))
  k_with "call ref" => (k_here; (with_reducible show wpAny _ _ (call (Value.ref 84) _) _ _ _); k_dflt (refine' greatest_spec (by assumption) (by k_extra "m stays") (by k_extra "m calm") (by k_extra "m tup") (by assumption) (by k_extra "m tup") ?_; intro _ _ _ _; k_extra "m kept"))
  trivial
section
theorem off25 : True := by
  w_top off
  trivial
/-- the store as its readers see it: the list of the domains, and no more -/
structure DeskR (h : Heap) (a : Addr) (vs : List Value) (D dl : Addr) (hs : Nat → Int) (ts : Nat → Tok) (vf vt vm vn vsp vi vc : Value) (n : Nat) : Prop where
  inst : h.get? a = some (storeObj D)
  dict : h.get? D = some (dictOf (storeEs hs ts (.ref dl) vf vt vm vn vsp vi vc) n)
  doms : h.IsList dl vs.toArray
theorem DeskR.mono {h h' : Heap} {a : Addr} {vs : List Value} {D dl : Addr} {hs : Nat → Int} {ts : Nat → Tok} {vf vt vm vn vsp vi vc : Value} {n : Nat} (k : Stays h h') (x : DeskR h a vs D dl hs ts vf vt vm vn vsp vi vc n) : DeskR h' a vs D dl hs ts vf vt vm vn vsp vi vc n :=
  ⟨k _ _ x.inst, k _ _ x.dict, isList_mono k x.doms⟩
section
variable {w : World} {mean : ExcName → Option Value} {mg mb : PySem.Str → Option Value} {B : Heap} {A : Around} {s : Shared} {Q E : Value → Shared → Prop}
  {a : Addr} {vs : List Value} {D dl : Addr} {hs : Nat → Int} {ts : Nat → Tok} {vf vt vm vn vsp vi vc : Value} {n : Nat} {x : Nat} {tx : Tok}
theorem dom_spec {v : Value} (C : Core w mean mg mb B) (hB : Stays B s.heap) (hA : Calm A 1) (hD : DeskR s.heap a vs D dl hs ts vf vt vm vn vsp vi vc n) (hx : vs[x]? = some v) (hf : x < 2 ^ 62)
  (hret : ∀ h' tk', Stays s.heap h' → Q v {s with heap := h', toks := tk'}) :
  wpAny (model PR w) A (call (.ref 183) [.ref a, .int (x : Int) tx]) Q E s := by
  obtain ⟨hi, hd, hl⟩ := hD
  k_extra "m enter0"
  k_steps
  exact hret _ _ (Fr.keep (by assumption))
theorem low_spec {lo hi : Int} {d p : Addr} {items : List Value} {t1 t2 : Tok} (C : Core w mean mg mb B) (hB : Stays B s.heap) (hA : Calm A 2) (hD : DeskR s.heap a vs D dl hs ts vf vt vm vn vsp vi vc n) (hx : vs[x]? = some (.ref d)) (hf : x < 2 ^ 62)
  (hd : IsTup s.heap d items.toArray) (hp : items[0]? = some (.ref p)) (hpt : IsTup s.heap p #[.int lo t1, .int hi t2])
  (hret : ∀ h' tk' t, Stays s.heap h' → Q (.int lo t) {s with heap := h', toks := tk'}) :
  wpAny (model PR w) A (call (.ref 197) [.ref a, .int (x : Int) tx]) Q E s := by
  obtain ⟨hi, hdd, hl⟩ := hD
  k_extra "m enter0"
  k_steps
  exact hret _ _ _ (Fr.keep (by assumption))
theorem high_spec {lo hi : Int} {d p : Addr} {items : List Value} {t1 t2 : Tok} (C : Core w mean mg mb B) (hB : Stays B s.heap) (hA : Calm A 2) (hD : DeskR s.heap a vs D dl hs ts vf vt vm vn vsp vi vc n) (hx : vs[x]? = some (.ref d)) (hf : x < 2 ^ 62)
  (hd : IsTup s.heap d items.toArray) (hp : items[items.length - 1]? = some (.ref p)) (hpt : IsTup s.heap p #[.int lo t1, .int hi t2])
  (hret : ∀ h' tk' t, Stays s.heap h' → Q (.int hi t) {s with heap := h', toks := tk'}) :
  wpAny (model PR w) A (call (.ref 204) [.ref a, .int (x : Int) tx]) Q E s := by
  obtain ⟨hi, hdd, hl⟩ := hD
  k_extra "m enter0"
  k_steps
  exact hret _ _ _ (Fr.keep (by assumption))
end

end
theorem rows25 : True := by
  k_with "call ref" => (k_here; (with_reducible show wpAny _ _ (call (Value.ref 183) _) _ _ _); k_dflt (refine' dom_spec (by assumption) (by k_extra "m stays") (by k_extra "m calm") (by k_extra "m desk") (by assumption) (by assumption) ?_; intro _ _ _; k_extra "m kept"))
  k_with "call ref" => (k_here; (with_reducible show wpAny _ _ (call (Value.ref 197) _) _ _ _); k_dflt (refine' low_spec (by assumption) (by k_extra "m stays") (by k_extra "m calm") (by k_extra "m desk") (by assumption) (by assumption) (by k_extra "m tup") (by assumption) (by k_extra "m tup") ?_; intro _ _ _ _; k_extra "m kept"))
  k_with "call ref" => (k_here; (with_reducible show wpAny _ _ (call (Value.ref 204) _) _ _ _); k_dflt (refine' high_spec (by assumption) (by k_extra "m stays") (by k_extra "m calm") (by k_extra "m desk") (by assumption) (by assumption) (by k_extra "m tup") (by assumption) (by k_extra "m tup") ?_; intro _ _ _ _; k_extra "m kept"))
  trivial
section
theorem off30 : True := by
  w_top off
  trivial
section
variable {w : World} {mean : ExcName → Option Value} {mg mb : PySem.Str → Option Value} {B : Heap} {A : Around} {s : Shared} {Q E : Value → Shared → Prop}
noncomputable def sizeOf' (rs : Rng) : Int := (rs.map fun r => r.2 - r.1 + 1).sum
set_option pp.deepTerms false
set_option pp.deepTerms.threshold 3
theorem size_spec {d : Addr} {vs : List Value} {rs : Rng}
  (C : Core w mean mg mb B) (hB : Stays B s.heap) (hA : Calm A 2)
  (hd : IsTup s.heap d vs.toArray) (hp : Prs s.heap vs rs) (hz : rs.length ≤ 1000)
  (hret : ∀ h' tk' t, Stays s.heap h' → Q (.int (sizeOf' rs) t) {s with heap := h', toks := tk'}) :
  wpAny (model PR w) A (call (.ref 89) [.ref d]) Q E s := by
  k_extra "m enter0"
  k_steps
  refine comp_pairs (fun r o _ => ∃ t, o = some (.int (r.2 - r.1 + 1) t)) (fun _ _ _ _ _ h => h) (Calm.hh (by assumption)) ?_
  k_steps
  refine ⟨d, vs, rs, rfl, .inl (by k_extra "m tup"), hp.mono (Fr.keep (by assumption)), le_sizeLine hz, ?_, ?_⟩
  · intro r Cc h tk m t1 t2 E' hr hk hn hm1 hm2
    have F' : CF _ _ _ _ _ := ⟨hn, hk, fun _ _ e => e⟩
    refine wpAny_tests_nil ?_
    rw [if_pos rfl]
    k_steps
    exact ⟨_, _, rfl, fun _ _ e => e, _, rfl⟩
  · intro D h' tk os hD hpl hlen hG hk
    obtain ⟨nD, hD'⟩ := hpl
    have hi := ints_of_opts hlen hG
    have F' := Fr.keeps (by with_reducible assumption) hk
    have N' := news_fresh (by with_reducible assumption) (by with_reducible assumption) hk hD hD'
    k_steps
    exact hret _ _ _ (Fr.keep (by assumption))
end

end
theorem rows30 : True := by
  k_with "call ref" => (k_here; (with_reducible show wpAny _ _ (call (Value.ref 89) _) _ _ _); k_dflt (refine' size_spec (by assumption) (by k_extra "m stays") (by k_extra "m calm") (by k_extra "m tup") (by first | assumption | exact Prs.mono (Fr.keep (by with_reducible assumption)) (by with_reducible assumption)) (by assumption) ?_; intro _ _ _ _; k_extra "m kept"))
  trivial
section
theorem off32 : True := by
  w_top off
  trivial
section
variable {w : World} {mean : ExcName → Option Value} {mg mb : PySem.Str → Option Value} {B : Heap} {A : Around} {s : Shared} {Q E : Value → Shared → Prop}
noncomputable def upTo (rs : Rng) (k : Int) : Rng := rs.filterMap fun r => if r.1 ≤ k then some (r.1, min r.2 k) else none
theorem upTo_spec {d : Addr} {vs : List Value} {rs : Rng} {k : Int} {tk0 : Tok}
  (C : Core w mean mg mb B) (hB : Stays B s.heap) (hA : Calm A 2)
  (hd : IsTup s.heap d vs.toArray) (hp : Prs s.heap vs rs) (hz : rs.length ≤ 1000)
  (hret : ∀ h' tk' r, Stays s.heap h' → DomAt h' r (upTo rs k) → Q r {s with heap := h', toks := tk'}) :
  wpAny (model PR w) A (call (.ref 108) [.ref d, .int k tk0]) Q E s := by
  k_extra "m enterC0"
  k_extra "m cell1"
  k_steps
  rename News _ _ _ _ => N1
  rename _ = Data.cell _ => md
  have hc1 := News.get N1 (.head _)
  have hc2 : _ = Data.cell (some (.int k tk0)) := md
  refine comp_pairs (fun r o h => OptPair h (if r.1 ≤ k then some (r.1, min r.2 k) else none) o) (fun r o h h' kk x => x.tup kk) (Calm.hh (by assumption)) ?_
  k_steps
  refine ⟨d, vs, rs, rfl, .inl (by k_extra "m tup"), hp.mono (Fr.keep (by assumption)), le_sizeLine hz, ?_, ?_⟩
  · intro r Cc h tk m t1 t2 E' hr hk hn hm1 hm2
    have F' : CF _ _ _ _ _ := ⟨hn, hk, fun _ _ e => e⟩
    rename Fr _ _ _ _ => Fo
    have k0 : Stays s.heap _ := Fo.keep
    refine wpAny_tests_one ?_
    k_steps
    · exact ⟨_, _, rfl, CF.since (by assumption), opt_some (by assumption) (pair_made (by assumption))⟩
    · exact ⟨_, _, rfl, CF.since (by assumption), opt_none (by assumption)⟩
  · intro D h' tk os hD hpl hlen hG hk
    obtain ⟨nD, hD'⟩ := hpl
    have F' := Fr.keeps (by with_reducible assumption) hk
    have N' := news_fresh (by with_reducible assumption) (by with_reducible assumption) hk hD hD'
    have hz2 := opts_len hlen (le_sizeLine hz)
    k_steps
    rename Stays _ _ => kt
    exact hret _ _ _ (Fr.keep (by assumption)) ⟨_, _, rfl, News.isTup (by assumption) (.head _), (prs_of_opts hlen hG).mono kt⟩
noncomputable def fromOn (rs : Rng) (k : Int) : Rng := rs.filterMap fun r => if k ≤ r.2 then some (max r.1 k, r.2) else none
theorem fromOn_spec {d : Addr} {vs : List Value} {rs : Rng} {k : Int} {tk0 : Tok}
  (C : Core w mean mg mb B) (hB : Stays B s.heap) (hA : Calm A 2)
  (hd : IsTup s.heap d vs.toArray) (hp : Prs s.heap vs rs) (hz : rs.length ≤ 1000)
  (hret : ∀ h' tk' r, Stays s.heap h' → DomAt h' r (fromOn rs k) → Q r {s with heap := h', toks := tk'}) :
  wpAny (model PR w) A (call (.ref 113) [.ref d, .int k tk0]) Q E s := by
  k_extra "m enterC0"
  k_extra "m cell1"
  k_steps
  rename News _ _ _ _ => N1
  rename _ = Data.cell _ => md
  have hc1 := News.get N1 (.head _)
  have hc2 : _ = Data.cell (some (.int k tk0)) := md
  refine comp_pairs (fun r o h => OptPair h (if k ≤ r.2 then some (max r.1 k, r.2) else none) o) (fun r o h h' kk x => x.tup kk) (Calm.hh (by assumption)) ?_
  k_steps
  refine ⟨d, vs, rs, rfl, .inl (by k_extra "m tup"), hp.mono (Fr.keep (by assumption)), le_sizeLine hz, ?_, ?_⟩
  · intro r Cc h tk m t1 t2 E' hr hk hn hm1 hm2
    have F' : CF _ _ _ _ _ := ⟨hn, hk, fun _ _ e => e⟩
    rename Fr _ _ _ _ => Fo
    have k0 : Stays s.heap _ := Fo.keep
    refine wpAny_tests_one ?_
    k_steps
    · exact ⟨_, _, rfl, CF.since (by assumption), opt_some (by assumption) (pair_made (by assumption))⟩
    · exact ⟨_, _, rfl, CF.since (by assumption), opt_none (by assumption)⟩
  · intro D h' tk os hD hpl hlen hG hk
    obtain ⟨nD, hD'⟩ := hpl
    have F' := Fr.keeps (by with_reducible assumption) hk
    have N' := news_fresh (by with_reducible assumption) (by with_reducible assumption) hk hD hD'
    have hz2 := opts_len hlen (le_sizeLine hz)
    k_steps
    rename Stays _ _ => kt
    exact hret _ _ _ (Fr.keep (by assumption)) ⟨_, _, rfl, News.isTup (by assumption) (.head _), (prs_of_opts hlen hG).mono kt⟩
end

end
theorem rows32 : True := by
  k_with "m prs" => first | with_reducible assumption | exact Prs.mono (Fr.keep (by with_reducible assumption)) (by with_reducible assumption)
  k_with "call ref" => (k_here; (with_reducible show wpAny _ _ (call (Value.ref 108) _) _ _ _); k_dflt (refine' upTo_spec (by assumption) (by k_extra "m stays") (by k_extra "m calm") (by k_extra "m tup") (by k_extra "m prs") (by assumption) ?_; intro _ _ _ kc dc; (obtain ⟨ac, vc, ec, tc, pc⟩ := dc); subst ec; revert kc ac vc tc pc; intro _ _ _ _ _; k_extra "m kept"))
  k_with "call ref" => (k_here; (with_reducible show wpAny _ _ (call (Value.ref 113) _) _ _ _); k_dflt (refine' fromOn_spec (by assumption) (by k_extra "m stays") (by k_extra "m calm") (by k_extra "m tup") (by k_extra "m prs") (by assumption) ?_; intro _ _ _ kc dc; (obtain ⟨ac, vc, ec, tc, pc⟩ := dc); subst ec; revert kc ac vc tc pc; intro _ _ _ _ _; k_extra "m kept"))
  trivial
section
theorem off34 : True := by
  w_top off
  trivial
section
variable {prog : Program} {w : World} {A : Around} {E : Value → Shared → Prop} {s : Shared} {Q : Value → Shared → Prop}
theorem add_tup2 {t b : Addr} {vs ws : List Value} (ht : IsTup s.heap t vs.toArray) (hb : IsTup s.heap b ws.toArray) (hsz : vs.length + ws.length ≤ sizeLine)
    (h : ∀ (D : Addr) h', Stays s.heap h' → IsTup h' D (vs ++ ws).toArray → Q (.ref D) { s with heap := h' }) :
    wpAny (model prog w) A (binaryOp .Add (.ref t) (.ref b)) Q E s := by
  have ht' := ht
  have hb' := hb
  obtain ⟨⟨cls, dd, data, sl⟩, ho, hc, n, hd⟩ := id ht
  obtain ⟨⟨cls2, dd2, data2, sl2⟩, ho2, hc2, n2, hd2⟩ := id hb
  simp only at hc hd hc2 hd2
  subst hc hd hc2 hd2
  have e : vs.toArray ++ ws.toArray = (vs ++ ws).toArray := by simp
  by_cases hv : vs = []
  · refine concat_meets ⟨_, ho, rfl⟩ ⟨_, ho2, rfl⟩ noFill_tuple_add seq_tuple_add PySem.F.slot_tuple_add PySem.F.entry_tuple_add (PySem.F.args_tuple_add_2 _ _)
      (tuple_addW0 t b vs.toArray ws.toArray n n2 dd dd2 sl sl2 (by simp [hv])) ⟨ho, ho2, ?_⟩
    exact h _ _ (fun _ _ e => e) (by rw [hv]; exact hb')
  · by_cases hw : ws = []
    · refine concat_meets ⟨_, ho, rfl⟩ ⟨_, ho2, rfl⟩ noFill_tuple_add seq_tuple_add PySem.F.slot_tuple_add PySem.F.entry_tuple_add (PySem.F.args_tuple_add_2 _ _)
        (tuple_addW1 t b vs.toArray ws.toArray n n2 dd dd2 sl sl2 (by simpa using hv) (by simp [hw])) ⟨ho, ho2, ?_⟩
      exact h _ _ (fun _ _ e => e) (by rw [hw, List.append_nil]; exact ht')
    · refine concat_meets ⟨_, ho, rfl⟩ ⟨_, ho2, rfl⟩ noFill_tuple_add seq_tuple_add PySem.F.slot_tuple_add PySem.F.entry_tuple_add (PySem.F.args_tuple_add_2 _ _)
        (tuple_addW2 t b vs.toArray ws.toArray n n2 dd dd2 sl sl2 (by simpa using hv) (by simpa using hw) (by rw [List.size_toArray, List.size_toArray]; exact hsz)) ⟨ho, ho2, ?_⟩
      rw [e]
      exact h _ _ (fun _ _ e => Heap.get?_push_of_some _ e) ⟨_, Heap.get?_push_size _ rfl, rfl, 0, rfl⟩
end
section
variable {w : World} {mean : ExcName → Option Value} {mg mb : PySem.Str → Option Value} {B : Heap} {A : Around} {s : Shared} {Q E : Value → Shared → Prop}
theorem upTo_len (rs : Rng) (k : Int) : (upTo rs k).length ≤ rs.length := List.length_filterMap_le _ _
theorem fromOn_len (rs : Rng) (k : Int) : (fromOn rs k).length ≤ rs.length := List.length_filterMap_le _ _
noncomputable def without (rs : Rng) (v : Int) : Rng := upTo rs (v - 1) ++ fromOn rs (v + 1)
theorem without_spec {d : Addr} {vs : List Value} {rs : Rng} {k : Int} {tk0 : Tok}
  (C : Core w mean mg mb B) (hB : Stays B s.heap) (hA : Calm A 3)
  (hd : IsTup s.heap d vs.toArray) (hp : Prs s.heap vs rs) (hz : rs.length ≤ 1000)
  (hret : ∀ h' tk' r, Stays s.heap h' → DomAt h' r (without rs k) → Q r {s with heap := h', toks := tk'}) :
  wpAny (model PR w) A (call (.ref 120) [.ref d, .int k tk0]) Q E s := by
  k_extra "m enter0"
  k_steps
  rename_i hc1 tkc1 kc1 ac1 vc1 tc1 pc1 hc2 tkc2 kc2 ac2 vc2 tc2 pc2 F' N'
  have l1 := pc1.length
  have l2 := pc2.length
  have l3 := upTo_len rs (k - 1)
  have l4 := fromOn_len rs (k + 1)
  refine add_tup2 (tc1.keeps kc2) tc2 (by simp only [sizeLine]; omega) fun D h' k' ht => ?_
  exact hret _ _ _ (stays_trans F'.keep k') ⟨D, _, rfl, ht, (Prs.append (pc1.mono kc2) pc2).mono k'⟩
end

end
theorem rows34 : True := by
  k_with "call ref" => (k_here; (with_reducible show wpAny _ _ (call (Value.ref 120) _) _ _ _); k_dflt (refine' without_spec (by assumption) (by k_extra "m stays") (by k_extra "m calm") (by k_extra "m tup") (by k_extra "m prs") (by assumption) ?_; intro _ _ _ kc dc; (obtain ⟨ac, vc, ec, tc, pc⟩ := dc); subst ec; revert kc ac vc tc pc; intro _ _ _ _ _; k_extra "m kept"))
  trivial
section
theorem off36 : True := by
  w_top off
  trivial
/-- what a literal leaves of a domain: 0 '<=', 1 '>=', 2 '!=' -/
noncomputable def struckBy (way : Nat) (rs : Rng) (k : Int) : Rng := if way = 0 then upTo rs k else if way = 1 then fromOn rs k else without rs k
noncomputable def signOf (way : Nat) : String := if way = 0 then "<=" else if way = 1 then ">=" else "!="
/-- a literal (x, sign, k) -/
noncomputable def LitAt (h : Heap) (v : Value) (x : Nat) (way : Nat) (k : Int) : Prop := ∃ p t1 t2 t3, v = .ref p ∧ IsTup h p #[.int (x : Int) t1, .str (Str.ofString (signOf way)) t2, .int k t3]
theorem LitAt.mono {h h' : Heap} {v : Value} {x way : Nat} {k : Int} (s : Stays h h') (l : LitAt h v x way k) : LitAt h' v x way k := by
  obtain ⟨p, t1, t2, t3, e, ht⟩ := l
  exact ⟨p, t1, t2, t3, e, ht.keeps s⟩
section
variable {w : World} {mean : ExcName → Option Value} {mg mb : PySem.Str → Option Value} {B : Heap} {A : Around} {s : Shared} {Q E : Value → Shared → Prop}
theorem struck_spec {l : Value} {d : Addr} {vs : List Value} {rs : Rng} {x way : Nat} {k : Int}
  (C : Core w mean mg mb B) (hB : Stays B s.heap) (hA : Calm A 4) (hw : way < 3)
  (hl : LitAt s.heap l x way k) (hd : IsTup s.heap d vs.toArray) (hp : Prs s.heap vs rs) (hz : rs.length ≤ 1000)
  (hret : ∀ h' tk' r, Stays s.heap h' → DomAt h' r (struckBy way rs k) → Q r {s with heap := h', toks := tk'}) :
  wpAny (model PR w) A (call (.ref 141) [l, .ref d]) Q E s := by
  obtain ⟨p, t1, t2, t3, rfl, ht⟩ := hl
  have cases3 : way = 0 ∨ way = 1 ∨ way = 2 := by omega
  rcases cases3 with rfl | rfl | rfl
  all_goals (dsimp only [signOf] at ht; simp only [if_pos, reduceIte, Nat.reduceEqDiff] at ht)
  all_goals k_extra "m enter0"
  all_goals k_steps
  all_goals exact hret _ _ _ (Fr.keep (by assumption)) ⟨_, _, rfl, by assumption, by assumption⟩
end

end
theorem rows36 : True := by
  k_with "call ref" => (k_here; (with_reducible show wpAny _ _ (call (Value.ref 141) _) _ _ _); k_dflt (refine' struck_spec (by assumption) (by k_extra "m stays") (by k_extra "m calm") (by assumption) (by first | assumption | exact LitAt.mono (Fr.keep (by with_reducible assumption)) (by with_reducible assumption)) (by k_extra "m tup") (by k_extra "m prs") (by assumption) ?_; intro _ _ _ kc dc; (obtain ⟨ac, vc, ec, tc, pc⟩ := dc); subst ec; revert kc ac vc tc pc; intro _ _ _ _ _; k_extra "m kept"))
  trivial
section
theorem off38 : True := by
  w_top off
  trivial
noncomputable def fixedOf (rs : Rng) : Bool := match rs with
  | [r] => r.1 == r.2
  | _ => false
section
variable {w : World} {mean : ExcName → Option Value} {mg mb : PySem.Str → Option Value} {B : Heap} {A : Around} {s : Shared} {Q E : Value → Shared → Prop}
  {a : Addr} {vs : List Value} {D dl : Addr} {hs : Nat → Int} {ts : Nat → Tok} {vf vt vm vn vsp vi vc : Value} {n : Nat} {x : Nat} {tx : Tok} {d : Addr} {items : List Value} {rs : Rng}
theorem width_spec (C : Core w mean mg mb B) (hB : Stays B s.heap) (hA : Calm A 3) (hD : DeskR s.heap a vs D dl hs ts vf vt vm vn vsp vi vc n) (hx : vs[x]? = some (.ref d)) (hf : x < 2 ^ 62)
  (hd : IsTup s.heap d items.toArray) (hp : Prs s.heap items rs) (hz : rs.length ≤ 1000)
  (hret : ∀ h' tk' t, Stays s.heap h' → Q (.int (sizeOf' rs) t) {s with heap := h', toks := tk'}) :
  wpAny (model PR w) A (call (.ref 232) [.ref a, .int (x : Int) tx]) Q E s := by
  obtain ⟨hi, hdd, hl⟩ := hD
  have hvl := hp.length
  k_extra "m enter0"
  k_steps
  exact hret _ _ _ (Fr.keep (by assumption))
theorem is_fixed_spec (C : Core w mean mg mb B) (hB : Stays B s.heap) (hA : Calm A 3) (hD : DeskR s.heap a vs D dl hs ts vf vt vm vn vsp vi vc n) (hx : vs[x]? = some (.ref d)) (hf : x < 2 ^ 62)
  (hd : IsTup s.heap d items.toArray) (hp : Prs s.heap items rs) (hz : rs.length ≤ 1000) (hne : rs ≠ [])
  (hret : ∀ h' tk', Stays s.heap h' → Q (.bool (fixedOf rs)) {s with heap := h', toks := tk'}) :
  wpAny (model PR w) A (call (.ref 218) [.ref a, .int (x : Int) tx]) Q E s := by
  obtain ⟨hi, hdd, hl⟩ := hD
  have hvl := hp.length
  obtain ⟨p, t1, t2, r, h0, hr0, hpt⟩ := hp.first hne
  k_extra "m enter0"
  k_steps
  · rename_i e
    have e1 : rs.length = 1 := by omega
    obtain ⟨q, rfl⟩ := List.length_eq_one_iff.mp e1
    cases hr0
    exact hret _ _ (Fr.keep (by assumption))
  · rename_i e
    have e0 : ((items.length : Int) == 1) = false := by simpa using e
    have e1 : fixedOf rs = false := by
      match rs, hvl with
      | [], _ => rfl
      | [q], hl => exact absurd (by rw [hl]; rfl) e
      | _ :: _ :: _, _ => rfl
    rw [e0, ← e1]
    exact hret _ _ (Fr.keep (by assumption))
end

end
theorem rows38 : True := by
  k_with "m desk" => first | assumption | exact DeskR.mono (Fr.keep (by with_reducible assumption)) (by assumption) | exact DeskR.mono (by with_reducible assumption) (by assumption)
  k_with "call ref" => (k_here; (with_reducible show wpAny _ _ (call (Value.ref 232) _) _ _ _); k_dflt (refine' width_spec (by assumption) (by k_extra "m stays") (by k_extra "m calm") (by k_extra "m desk") (by assumption) (by assumption) (by k_extra "m tup") (by k_extra "m prs") (by assumption) ?_; intro _ _ _ _; k_extra "m kept"))
  k_with "call ref" => (k_here; (with_reducible show wpAny _ _ (call (Value.ref 218) _) _ _ _); k_dflt (refine' is_fixed_spec (by assumption) (by k_extra "m stays") (by k_extra "m calm") (by k_extra "m desk") (by assumption) (by assumption) (by k_extra "m tup") (by k_extra "m prs") (by assumption) (by assumption) ?_; intro _ _ _; k_extra "m kept"))
  trivial
section
theorem off40 : True := by
  w_top off
  trivial
/-! ## for loops, by what holds at each turn over the frame's map and the ledger -/
inductive ForEndC (g : Heap) (L : Addr) (own : List (Addr × Obj)) (J : (PySem.Str → Option Value) → List (Addr × Obj) → Prop) (gn : Array GenState) (dr : Drawn) (os : OsState) (s₃ : Shared) : Prop
  | mk (h' : Heap) (tk : Nat) (m' : PySem.Str → Option Value) (news' nx : List (Addr × Obj)) (e : s₃ = { heap := h', gens := gn, drawn := dr, toks := tk, os := os }) (F : Fr g L h' m') (N : News g L h' news') (a1 : ∀ p ∈ own, p ∈ news') (a2 : ∀ p ∈ nx, p ∈ news') (a3 : ∀ p ∈ nx, ∀ q ∈ own, @Ne Nat p.1 q.1) (j : J m' nx) : ForEndC g L own J gn dr os s₃
noncomputable abbrev ForEnd (g : Heap) (L : Addr) (own : List (Addr × Obj)) (J : (PySem.Str → Option Value) → List (Addr × Obj) → Prop) (s₂ s₃ : Shared) : Prop := ForEndC g L own J s₂.gens s₂.drawn s₂.os s₃
noncomputable def ForPost (g : Heap) (L : Addr) (own : List (Addr × Obj)) (J : (PySem.Str → Option Value) → List (Addr × Obj) → Prop) (s₂ : Shared) (Q : Flow → Shared → Prop) (f : Flow) (s₃ : Shared) : Prop :=
  match f with
  | .next => ForEnd g L own J s₂ s₃
  | .cont => ForEnd g L own J s₂ s₃
  | .brk => Q .next s₃
  | .ret v => Q (.ret v) s₃
inductive ForSrc (prog : Program) (w : World) (A : Around) (g : Heap) (L : Addr) (env : Env) (target : Expr) (body : List Stmt) (Q : Flow → Shared → Prop) (it : Value) (s₂ : Shared) : Prop
  | mk (I : Nat) (oI : Obj) (fp : List Nat) (n : Nat) (P : Nat → Value → Prop) (St : Nat → Heap → Prop) (J : Nat → (PySem.Str → Option Value) → List (Addr × Obj) → Prop) (m : PySem.Str → Option Value) (news : List (Addr × Obj)) (a0 : it = .ref I) (a1 : Walks prog w A I fp [I] n P St) (a2 : St 0 s₂.heap) (a3 : Fr g L s₂.heap m) (a4 : News g L s₂.heap ((I, oI) :: news)) (a5 : ∀ p ∈ news, @Ne Nat p.1 I) (a6 : J 0 m news) (a7 : ∀ b ∈ fp, b = I ∨ ∃ o, g.get? b = some o) (a8 : ∀ i h, St i h → ∃ o, h.get? I = some o) (a9 : ∀ i v h tk m oI news E', i < n → P i v → J i m news → St (i + 1) h → Fr g L h m → News g L h ((I, oI) :: news) → (∀ p ∈ news, @Ne Nat p.1 I) → wpAny (model prog w) A (letOwnedTupleGo target (.ref I) v) (fun _ sa => wpAny (model prog w) A (assign target env v) (fun _ sb => wpAny (model prog w) A (execs body env) (ForPost g L [(I, oI)] (J (i + 1)) s₂ Q) E' sb) E' sa) E' { s₂ with heap := h, toks := tk }) (a10 : ∀ h tk m news, J n m news → Fr g L h m → News g L h news → Q .next { s₂ with heap := h, toks := tk }) : ForSrc prog w A g L env target body Q it s₂
theorem fr_but1 {g h h' : Heap} {L : Addr} {I : Nat} {m : PySem.Str → Option Value} (F : Fr g L h m) (k : ∀ (b : Nat) o, b ≠ I → h.get? b = some o → h'.get? b = some o) (hL : I ≠ L) (hg : g.get? I = none) : Fr g L h' m := by
  refine ⟨F.ns.at' fun o e => k L o (fun q => hL q.symm) e, fun b o e => k b o (fun q => ?_) (F.keep b o e), F.above⟩
  rw [q, hg] at e; cases e
theorem news_but1 {g h h' : Heap} {L : Addr} {I : Nat} {news : List (Addr × Obj)} (N : News g L h news) (k : ∀ (b : Nat) o, b ≠ I → h.get? b = some o → h'.get? b = some o) (hn : ∀ p ∈ news, @Ne Nat p.1 I) : News g L h' news :=
  fun p hp => ⟨k _ _ (hn p hp) (N p hp).1, (N p hp).2⟩

inductive TurnAt (g : Heap) (L I : Addr) (n : Nat) (St : Nat → Heap → Prop) (J : Nat → (PySem.Str → Option Value) → List (Addr × Obj) → Prop) (s₂ : Shared) (k : Nat) (s' : Shared) : Prop
  | mk (i : Nat) (h' : Heap) (tk : Nat) (m : PySem.Str → Option Value) (oI : Obj) (news : List (Addr × Obj)) (e : s' = { s₂ with heap := h', toks := tk }) (hi : i ≤ n) (hk : k = n + 1 - i) (j : J i m news) (hs : St i h') (F : Fr g L h' m) (N : News g L h' ((I, oI) :: news)) (ne : ∀ p ∈ news, @Ne Nat p.1 I) : TurnAt g L I n St J s₂ k s'
section
variable {prog : Program} {w : World} {A : Around} {E : Value → Shared → Prop} {s : Shared} {g : Heap} {L : Addr} {env : Env} {target iter : Expr} {body : List Stmt} {pos : Pos} {Q : Flow → Shared → Prop}
theorem for_core (h : wpAny (model prog w) A (eval iter env) (fun xv s₁ => wpAny (model prog w) A (pyIter xv) (fun it s₂ => ForSrc prog w A g L env target body Q it s₂) E s₁) E s)
    (hs : ∀ x, foldedSetIterable iter env x = pure x := by intro _; rfl) : wpAny (model prog w) A (exec (.For target iter body [] pos) env) Q E s := by
  refine wpAny_For (wpAny_mono h (fun xv s₁ h₁ => wpAny_mono h₁ (fun it s₂ h₂ => ?_) fun _ _ e => e) fun _ _ e => e) hs
  obtain ⟨I, oI, fp, n, P, St, J, m, news, rfl, W, hst, F, N, hne, hJ, hfp, hI, turn, done⟩ := h₂
  refine codeAny_forLoop_any
    (TurnAt g L I n St J s₂) ?_ (n + 1)
    ⟨0, s₂.heap, s₂.toks, m, oI, news, rfl, Nat.zero_le _, rfl, hJ, hst, F, N, hne⟩
  rintro k s' ⟨i, h', tk, m, oI, news, rfl, hi, rfl, hJ, hst, F, N, hne⟩
  have hIL : I ≠ L := (N _ (.head _)).2.1
  have hIg : g.get? I = none := (N _ (.head _)).2.2
  by_cases hin : i < n
  · refine W.item i _ _ _ hin hst fun v h₂ tk₂ hP hst₂ hk₂ => ?_
    have hk₂' : ∀ (b : Nat) o, b ≠ I → h'.get? b = some o → h₂.get? b = some o := fun b o hb e => hk₂ b o (by simpa using hb) e
    obtain ⟨oI', hoI'⟩ := hI _ _ hst₂
    have F₂ := fr_but1 F hk₂' hIL hIg
    have N₂ : News g L h₂ ((I, oI') :: news) := by
      intro p hp
      rcases List.mem_cons.mp hp with rfl | hp
      · exact ⟨hoI', hIL, hIg⟩
      · exact news_but1 (fun q hq => N q (.tail _ hq)) hk₂' hne p hp
    refine wpAny_mono (turn i v h₂ tk₂ m oI' news _ hin hP hJ hst₂ F₂ N₂ hne) (fun _ sa ha => wpAny_mono ha (fun _ sb hb => wpAny_mono hb (fun f s₃ h₃ => ?_) fun _ _ e => e) fun _ _ e => e) fun _ _ e => e
    have fin : ForEnd g L [(I, oI')] (J (i + 1)) s₂ s₃ → ∃ m_1, m_1 < n + 1 - i ∧ TurnAt g L I n St J s₂ m_1 s₃ := by
      rintro ⟨hH, tk₃, m₃, news₃, nx, rfl, F₃, N₃, hown, hnx, hsep, hJ₃⟩
      have hoI3 := (N₃ _ (hown _ (.head _)))
      refine ⟨n + 1 - (i + 1), by omega, i + 1, hH, tk₃, m₃, oI', nx, rfl, by omega, rfl, hJ₃, W.frame _ _ _ hst₂ (fun b hb o e => ?_), F₃, ?_, fun p hp => hsep p hp _ (.head _)⟩
      · rcases hfp b hb with rfl | ⟨ob, hob⟩
        · rw [hoI'] at e; cases e; exact hoI3.1
        · have := F₂.keep _ _ hob
          rw [this] at e; cases e; exact F₃.keep _ _ hob
      · intro p hp
        rcases List.mem_cons.mp hp with rfl | hp
        · exact hoI3
        · exact N₃ p (hnx p hp)
    cases f with
    | next => exact fin h₃
    | cont => exact fin h₃
    | brk => exact h₃
    | ret v => exact h₃
  · obtain rfl : i = n := by omega
    refine W.done _ _ _ hst fun h₂ tk₂ hk₂ => ?_
    have hk₂' : ∀ (b : Nat) o, b ≠ I → h'.get? b = some o → h₂.get? b = some o := fun b o hb e => hk₂ b o (by simpa using hb) e
    exact wpAny_execs_nil (done h₂ tk₂ m news hJ (fr_but1 F hk₂' hIL hIg) (news_but1 (fun q hq => N q (.tail _ hq)) hk₂' hne))

theorem Fr.push1 {g h : Heap} {L : Addr} {m : PySem.Str → Option Value} {news : List (Addr × Obj)} (F : Fr g L h m) (N : News g L h news) (o : Obj) (hf : o.isFreed = false) :
    Fr g L (h.push o) m ∧ News g L (h.push o) ((h.objs.size, o) :: news) ∧ ∀ p ∈ news, @Ne Nat p.1 h.objs.size :=
  ⟨F.push o, N.push F o hf, fun p hp => Nat.ne_of_lt (Heap.lt_size (N p hp).1)⟩

/-- over a tuple or a list of pairs of the base -/
inductive ForPairsSrc (prog : Program) (w : World) (A : Around) (g : Heap) (L : Addr) (env : Env) (a b : PySem.Str) (body : List Stmt) (Q : Flow → Shared → Prop) (xv : Value) (s₁ : Shared) : Prop
  | mk (t : Addr) (vs : List Value) (rs : Rng) (J : Nat → (PySem.Str → Option Value) → List (Addr × Obj) → Prop) (m : PySem.Str → Option Value) (news : List (Addr × Obj)) (a0 : xv = .ref t) (a1 : (IsTup g t (List.toArray vs) ∨ g.IsList t (List.toArray vs))) (a2 : Prs g vs rs) (a3 : Fr g L s₁.heap m) (a4 : News g L s₁.heap news) (a5 : J 0 m news) (a6 : ∀ (i : Nat) r h tk m (I : Nat) oI news t1 t2 E', rs[i]? = some r → J i m news → Fr g L h (fun z => if z = b then some (.int r.2 t2) else if z = a then some (.int r.1 t1) else m z) → News g L h ((I, oI) :: news) → (∀ p ∈ news, @Ne Nat p.1 I) → wpAny (model prog w) A (execs body env) (ForPost g L [(I, oI)] (J (i + 1)) s₁ Q) E' { s₁ with heap := h, toks := tk }) (a7 : ∀ h tk m news, J rs.length m news → Fr g L h m → News g L h news → Q .next { s₁ with heap := h, toks := tk }) : ForPairsSrc prog w A g L env a b body Q xv s₁
theorem for_pairs {a b : PySem.Str} {pa pb tp : Pos} {kk : Nat} (hh : A.handled = none)
    (h : wpAny (model prog w) A (eval iter env) (fun xv s₁ => ForPairsSrc prog w A g L env a b body Q xv s₁) E s)
    (hL : env.locals = L := by rfl) (ha : env.kindOf a = some .local := by rfl) (hb : env.kindOf b = some .local := by rfl)
    (hp : (env.scope.kind == .class || (env.scope.kind == .module && env.locals != env.globals)) = false := by rfl)
    (hs : ∀ x, foldedSetIterable iter env x = pure x := by intro _; rfl) : wpAny (model prog w) A (exec (.For (.Tuple [.Name a pa, .Name b pb] kk tp) iter body [] pos) env) Q E s := by
  subst hL
  refine for_core (g := g) (L := env.locals) (wpAny_mono h (fun xv s₁ h₁ => ?_) fun _ _ e => e) hs
  obtain ⟨t, vs, rs, J, m, news, rfl, hsrc, hpr, F, N, hJ, turn, done⟩ := h₁
  have hlen := hpr.length
  have main : ∀ (St : Nat → Heap → Prop) (oI : Obj), oI.isFreed = false →
      Walks prog w A s₁.heap.objs.size [s₁.heap.objs.size, t] [s₁.heap.objs.size] (List.toArray vs).size (fun i v => (List.toArray vs)[i]? = some v) St → St 0 (s₁.heap.push oI) → (∃ ot, g.get? t = some ot) →
      (∀ i h, St i h → ∃ o, h.get? s₁.heap.objs.size = some o ∧ (o.cls = .type "tuple_iterator" ∨ o.cls = .type "list_iterator")) →
      ForSrc prog w A g env.locals env (.Tuple [.Name a pa, .Name b pb] kk tp) body Q (.ref s₁.heap.objs.size) { s₁ with heap := s₁.heap.push oI } := by
    intro St oI hfr W hst ht hit
    obtain ⟨F', N', hne⟩ := Fr.push1 F N oI hfr
    refine ⟨s₁.heap.objs.size, oI, _, _, _, St, J, m, news, rfl, W, hst, F', N', hne, hJ, ?_, fun i h x => (hit i h x).imp fun _ y => y.1, ?_, ?_⟩
    · intro b hb
      rcases List.mem_cons.mp hb with rfl | hb
      · exact .inl rfl
      · rw [List.mem_singleton.mp hb]; exact .inr ht
    · intro i v h tk m oI news E' hin hv hJ hst' F₁ N₁ hne
      have hv' : vs[i]? = some v := by simpa using hv
      obtain ⟨r, hr, p, t1, t2, rfl, htp⟩ := hpr.get hv'
      obtain ⟨o, hoI, hcI⟩ := hit _ _ hst'
      refine letOwned_quiet hoI hcI ?_
      refine assign_pair hh (htp.keeps F₁.keep) ha hb hp F₁.ns fun h₅ tk₅ hn₅ hk₅ => ?_
      have hk5 : ∀ (c : Nat) o, c ≠ env.locals → h.get? c = some o → h₅.get? c = some o := hk₅
      refine turn i r h₅ tk₅ m _ oI news t1 t2 _ hr hJ ⟨hn₅, fun c o e => hk5 c o (fun q => ?_) (F₁.keep c o e), F₁.above⟩ (fun q hq => ⟨hk5 _ _ (N₁ q hq).2.1 (N₁ q hq).1, (N₁ q hq).2⟩) hne
      have h1 : @LT.lt Nat _ c g.objs.size := Heap.lt_size e
      have h2 : @LE.le Nat _ g.objs.size env.locals := F₁.above
      omega
    · intro h tk m news hJ F N
      have e : (List.toArray vs).size = rs.length := by simp [hlen]
      rw [e] at hJ
      exact done h tk m news hJ F N
  rcases hsrc with ht | hl
  · have hts : IsTup s₁.heap t (List.toArray vs) := ht.keeps F.keep
    refine wpAny_pyIter_tuple hts ?_
    have hlt : @LT.lt Nat _ t s₁.heap.objs.size := by obtain ⟨o, ho, _⟩ := hts; exact Heap.lt_size ho
    refine main _ _ rfl (Walks.tuple hh _ t (Nat.ne_of_lt hlt) _) ⟨⟨_, Heap.get?_push_size _ rfl, rfl, rfl⟩, ?_⟩ (by obtain ⟨o, ho, _⟩ := ht; exact ⟨o, ho⟩) ?_
    · obtain ⟨o, ho, r⟩ := hts; exact ⟨o, Heap.get?_push_of_some _ ho, r⟩
    · rintro i h ⟨⟨o, ho, hc, _⟩, _⟩; exact ⟨o, ho, .inl hc⟩
  · have hts : s₁.heap.IsList t (List.toArray vs) := isList_mono F.keep hl
    refine wpAny_pyIter_list hts ?_
    have hlt : @LT.lt Nat _ t s₁.heap.objs.size := by obtain ⟨o, ho, _⟩ := hts; exact Heap.lt_size ho
    refine main _ _ rfl (Walks.list hh _ t (Nat.ne_of_lt hlt) _) ⟨⟨_, Heap.get?_push_size _ rfl, rfl, rfl⟩, ?_⟩ (by obtain ⟨o, ho, _⟩ := hl; exact ⟨o, ho⟩) ?_
    · obtain ⟨o, ho, r⟩ := hts; exact ⟨o, Heap.get?_push_of_some _ ho, r⟩
    · rintro i h ⟨⟨o, ho, hc, _⟩, _⟩; exact ⟨o, ho, .inr hc⟩

/-- a frame and a ledger over a store into the frame's map -/
theorem fr_ns {g h h' : Heap} {L : Addr} {m m' : PySem.Str → Option Value} (F : Fr g L h m) (hn : h'.Ns L m') (k : ∀ (c : Nat) o, c ≠ L → h.get? c = some o → h'.get? c = some o) : Fr g L h' m' := by
  refine ⟨hn, fun c o e => k c o (fun q => ?_) (F.keep c o e), F.above⟩
  have h1 : @LT.lt Nat _ c g.objs.size := Heap.lt_size e
  have h2 : @LE.le Nat _ g.objs.size L := F.above
  have h3 : @Eq Nat c L := q
  omega
theorem news_ns {g h h' : Heap} {L : Addr} {news : List (Addr × Obj)} (N : News g L h news) (k : ∀ (c : Nat) o, c ≠ L → h.get? c = some o → h'.get? c = some o) : News g L h' news :=
  fun q hq => ⟨k _ _ (N q hq).2.1 (N q hq).1, (N q hq).2⟩

/-- over a range from nought -/
inductive ForRangeSrc (prog : Program) (w : World) (A : Around) (g : Heap) (L : Addr) (env : Env) (x : PySem.Str) (body : List Stmt) (Q : Flow → Shared → Prop) (xv : Value) (s₁ : Shared) : Prop
  | mk (r : Addr) (n : Nat) (t u v : Tok) (J : Nat → (PySem.Str → Option Value) → List (Addr × Obj) → Prop) (m : PySem.Str → Option Value) (news : List (Addr × Obj)) (a0 : xv = .ref r) (a1 : IsRange s₁.heap r 0 (n : Int) 1 t u v) (a2 : n ≤ 1000) (a3 : Fr g L s₁.heap m) (a4 : News g L s₁.heap news) (a5 : J 0 m news) (a6 : ∀ (i : Nat) h tk m (I : Nat) oI news ti E', i < n → J i m news → Fr g L h (fun z => if z = x then some (.int (i : Int) ti) else m z) → News g L h ((I, oI) :: news) → (∀ p ∈ news, @Ne Nat p.1 I) → wpAny (model prog w) A (execs body env) (ForPost g L [(I, oI)] (J (i + 1)) s₁ Q) E' { s₁ with heap := h, toks := tk }) (a7 : ∀ h tk m news, J n m news → Fr g L h m → News g L h news → Q .next { s₁ with heap := h, toks := tk }) : ForRangeSrc prog w A g L env x body Q xv s₁
theorem for_range {x : PySem.Str} {px : Pos} (hh : A.handled = none)
    (h : wpAny (model prog w) A (eval iter env) (fun xv s₁ => ForRangeSrc prog w A g L env x body Q xv s₁) E s)
    (hL : env.locals = L := by rfl) (hx : env.kindOf x = some .local := by rfl)
    (hp : (env.scope.kind == .class || (env.scope.kind == .module && env.locals != env.globals)) = false := by rfl)
    (hs : ∀ x, foldedSetIterable iter env x = pure x := by intro _; rfl) : wpAny (model prog w) A (exec (.For (.Name x px) iter body [] pos) env) Q E s := by
  subst hL
  refine for_core (g := g) (L := env.locals) (wpAny_mono h (fun xv s₁ h₁ => ?_) fun _ _ e => e) hs
  obtain ⟨r, n, t, u, v, J, m, news, rfl, hr, hn, F, N, hJ, turn, done⟩ := h₁
  have hrs : Builtin.Range.rangeSize 0 (n : Int) 1 = (n : Int) := by
    unfold Builtin.Range.rangeSize
    by_cases c : (0 : Int) < n
    · simp [c]; omega
    · have : n = 0 := by omega
      subst this; simp
  have hsm : Builtin.Range.small 0 (n : Int) 1 = true := by
    unfold Builtin.Range.small
    have hf : ∀ j : Nat, j ≤ 1000 → Builtin.Range.rangeFitsLong (j : Int) = true := fun j hj => by
      unfold Builtin.Range.rangeFitsLong; simp; omega
    have h0 := hf 0 (by omega)
    have h1 := hf 1 (by omega)
    have hn' := hf n hn
    simp only [hrs]
    simp only [Int.natCast_zero, Int.natCast_one, Int.ofNat_eq_natCast] at h0 h1
    simp [h0, h1, hn']
  refine wpAny_pyIter_range hr hsm ?_
  rw [hrs]
  obtain ⟨F', N', hne⟩ := Fr.push1 F N ({ cls := .type "range_iterator", data := .fields #[rawInt 0, rawInt (n : Int), rawInt 1] }) rfl
  refine ⟨s₁.heap.objs.size, _, _, _, _, _, J, m, news, rfl, Walks.range hh _ 0 1 n, ?_, F', N', hne, hJ, ?_, ?_, ?_, ?_⟩
  · show IsRangeIter _ _ _ _ _
    simpa using Heap.get?_push_size s₁.heap (o := { cls := .type "range_iterator", data := .fields #[rawInt 0, rawInt (n : Int), rawInt 1] }) rfl
  · intro b hb; exact .inl (List.mem_singleton.mp hb)
  · intro i h x; exact ⟨_, x⟩
  · rintro i v h tk m oI news E' hin ⟨ti, rfl⟩ hJ hst' F₁ N₁ hne
    have e : (0 : Int) + (i : Nat) * 1 = (i : Int) := by omega
    rw [e]
    have hq : wpAny (model prog w) A (letOwnedTupleGo (.Name x px) (.ref s₁.heap.objs.size) (.int (i : Int) ti)) (fun _ sa => wpAny (model prog w) A (assign (.Name x px) env (.int (i : Int) ti)) (fun _ sb => wpAny (model prog w) A (execs body env)
        (ForPost g env.locals [(s₁.heap.objs.size, oI)] (J (i + 1)) s₁ Q) E' sb) E' sa) E' { s₁ with heap := h, toks := tk } := by
      refine wpAny_pure ?_
      refine wpAny_assign_Name (wpAny_storeName_local hx F₁.ns (fun h₅ hn₅ hs₅ => ?_) hp)
      have hk5 : ∀ (c : Nat) o, c ≠ env.locals → h.get? c = some o → h₅.get? c = some o := fun c o hc e => hs₅.extBut c o hc e
      exact turn i h₅ _ m _ oI news ti _ hin hJ (fr_ns F₁ hn₅ hk5) (news_ns N₁ hk5) hne
    exact hq
  · intro h tk m news hJ F N
    exact done h tk m news hJ F N

/-- over a tuple of the base, by a name -/
inductive ForTupSrc (prog : Program) (w : World) (A : Around) (g : Heap) (L : Addr) (env : Env) (x : PySem.Str) (body : List Stmt) (Q : Flow → Shared → Prop) (xv : Value) (s₁ : Shared) : Prop
  | mk (t : Addr) (vs : List Value) (J : Nat → (PySem.Str → Option Value) → List (Addr × Obj) → Prop) (m : PySem.Str → Option Value) (news : List (Addr × Obj)) (a0 : xv = .ref t) (a1 : IsTup g t (List.toArray vs)) (a2 : Fr g L s₁.heap m) (a3 : News g L s₁.heap news) (a4 : J 0 m news) (a5 : ∀ (i : Nat) v h tk m (I : Nat) oI news E', vs[i]? = some v → J i m news → Fr g L h (fun z => if z = x then some v else m z) → News g L h ((I, oI) :: news) → (∀ p ∈ news, @Ne Nat p.1 I) → wpAny (model prog w) A (execs body env) (ForPost g L [(I, oI)] (J (i + 1)) s₁ Q) E' { s₁ with heap := h, toks := tk }) (a6 : ∀ h tk m news, J vs.length m news → Fr g L h m → News g L h news → Q .next { s₁ with heap := h, toks := tk }) : ForTupSrc prog w A g L env x body Q xv s₁
theorem for_tup {x : PySem.Str} {px : Pos} (hh : A.handled = none)
    (h : wpAny (model prog w) A (eval iter env) (fun xv s₁ => ForTupSrc prog w A g L env x body Q xv s₁) E s)
    (hL : env.locals = L := by rfl) (hx : env.kindOf x = some .local := by rfl)
    (hp : (env.scope.kind == .class || (env.scope.kind == .module && env.locals != env.globals)) = false := by rfl)
    (hs : ∀ x, foldedSetIterable iter env x = pure x := by intro _; rfl) : wpAny (model prog w) A (exec (.For (.Name x px) iter body [] pos) env) Q E s := by
  subst hL
  refine for_core (g := g) (L := env.locals) (wpAny_mono h (fun xv s₁ h₁ => ?_) fun _ _ e => e) hs
  obtain ⟨t, vs, J, m, news, rfl, ht, F, N, hJ, turn, done⟩ := h₁
  have hts : IsTup s₁.heap t (List.toArray vs) := ht.keeps F.keep
  refine wpAny_pyIter_tuple hts ?_
  have hlt : @LT.lt Nat _ t s₁.heap.objs.size := by obtain ⟨o, ho, _⟩ := hts; exact Heap.lt_size ho
  obtain ⟨F', N', hne⟩ := Fr.push1 F N ({ cls := .type "tuple_iterator", data := .fields #[.ref t, .int 0 0] }) rfl
  refine ⟨s₁.heap.objs.size, _, _, _, _, _, J, m, news, rfl, Walks.tuple hh _ t (Nat.ne_of_lt hlt) (List.toArray vs), ⟨⟨_, Heap.get?_push_size _ rfl, rfl, rfl⟩, ?_⟩, F', N', hne, hJ, ?_, ?_, ?_, ?_⟩
  · obtain ⟨o, ho, r⟩ := hts; exact ⟨o, Heap.get?_push_of_some _ ho, r⟩
  · intro b hb
    rcases List.mem_cons.mp hb with rfl | hb
    · exact .inl rfl
    · rw [List.mem_singleton.mp hb]; obtain ⟨o, ho, _⟩ := ht; exact .inr ⟨o, ho⟩
  · rintro i h ⟨⟨o, ho, _⟩, _⟩; exact ⟨o, ho⟩
  · rintro i v h tk m oI news E' hin hv hJ hst' F₁ N₁ hne
    have hv' : vs[i]? = some v := by simpa using hv
    have hq : wpAny (model prog w) A (letOwnedTupleGo (.Name x px) (.ref s₁.heap.objs.size) v) (fun _ sa => wpAny (model prog w) A (assign (.Name x px) env v) (fun _ sb => wpAny (model prog w) A (execs body env)
        (ForPost g env.locals [(s₁.heap.objs.size, oI)] (J (i + 1)) s₁ Q) E' sb) E' sa) E' { s₁ with heap := h, toks := tk } := by
      refine wpAny_pure ?_
      refine wpAny_assign_Name (wpAny_storeName_local hx F₁.ns (fun h₅ hn₅ hs₅ => ?_) hp)
      have hk5 : ∀ (c : Nat) o, c ≠ env.locals → h.get? c = some o → h₅.get? c = some o := fun c o hc e => hs₅.extBut c o hc e
      exact turn i v h₅ _ m _ oI news _ hv' hJ (fr_ns F₁ hn₅ hk5) (news_ns N₁ hk5) hne
    exact hq
  · intro h tk m news hJ F N
    have e : (List.toArray vs).size = vs.length := by simp
    rw [e] at hJ
    exact done h tk m news hJ F N
end

/-! ## a frame's map, laid over an elder one -/
noncomputable def ov : List (PySem.Str × Option Value) → (PySem.Str → Option Value) → PySem.Str → Option Value
  | [], m, y => m y
  | p :: r, m, y => if y = p.1 then p.2 else ov r m y
theorem ov_eq0 : ∀ (l : List (PySem.Str × Option Value)) {m m₀ : PySem.Str → Option Value}, (∀ p ∈ l, m p.1 = p.2) → (∀ y, (∀ p ∈ l, y ≠ p.1) → m y = m₀ y) → m = ov l m₀
  | l, m, m₀, hin, hout => by
    funext y
    by_cases h : ∀ p ∈ l, y ≠ p.1
    · rw [hout y h]
      clear hin hout
      induction l with
      | nil => rfl
      | cons p r ih => rw [ov, if_neg (h p (.head _))]; exact ih fun q hq => h q (.tail _ hq)
    · have : ∃ p ∈ l, y = p.1 := Classical.byContradiction fun c => h fun p hp e => c ⟨p, hp, e⟩
      clear hout h
      induction l with
      | nil => obtain ⟨p, hp, _⟩ := this; cases hp
      | cons p r ih =>
        rw [ov]
        by_cases e : y = p.1
        · rw [if_pos e, e]; exact hin p (.head _)
        · rw [if_neg e]
          refine ih (fun q hq => hin q (.tail _ hq)) ?_
          obtain ⟨q, hq, e'⟩ := this
          rcases List.mem_cons.mp hq with rfl | hq
          · exact absurd e' e
          · exact ⟨q, hq, e'⟩
theorem in_cons {α : Type} {P : α → Prop} {a : α} {l : List α} (h : P a) (t : ∀ p ∈ l, P p) : ∀ p ∈ a :: l, P p := List.forall_mem_cons.mpr ⟨h, t⟩
theorem out_mem {a b v u : Option Value} {s y : PySem.Str} {l : List (PySem.Str × Option Value)} (hy : ∀ p ∈ l, y ≠ p.1) (hs : (s, u) ∈ l) (h : a = b) : (if y = s then v else a) = b := by
  rw [if_neg (hy _ hs)]; exact h
theorem out_rmem {a b v u : Option Value} {s y : PySem.Str} {l : List (PySem.Str × Option Value)} (hy : ∀ p ∈ l, y ≠ p.1) (hs : (s, u) ∈ l) (h : a = b) : a = (if y = s then v else b) := by
  rw [if_neg (hy _ hs)]; exact h
theorem out_in {m : PySem.Str → Option Value} {b : Option Value} {y : PySem.Str} {l : List (PySem.Str × Option Value)} (hy : ∀ p ∈ l, y ≠ p.1) (h : m y = b) : ∀ (r : List (PySem.Str × Option Value)), (∀ q ∈ r, q.1 ∈ l.map Prod.fst) → ov r m y = b
  | [], _ => h
  | q :: r, hr => by
    obtain ⟨p, hp, e⟩ := List.mem_map.mp (hr q (.head _))
    rw [ov, if_neg (fun x => hy p hp (x.trans e.symm))]
    exact out_in hy h r fun q' hq' => hr q' (.tail _ hq')
theorem out_same {m : PySem.Str → Option Value} {b : Option Value} {y : PySem.Str} {l : List (PySem.Str × Option Value)} (hy : ∀ p ∈ l, y ≠ p.1) (h : m y = b) (r : List (PySem.Str × Option Value)) (e : r.map Prod.fst = l.map Prod.fst) : ov r m y = b :=
  out_in hy h r fun _ hq => e ▸ List.mem_map_of_mem hq
theorem out_ov {m : PySem.Str → Option Value} {b : Option Value} {y : PySem.Str} {l : List (PySem.Str × Option Value)} (hy : ∀ p ∈ l, y ≠ p.1) (h : m y = b) (r : List (PySem.Str × Option Value)) (e : (r.all fun q => (l.map Prod.fst).contains q.1) = true) : ov r m y = b :=
  out_in hy h r fun q hq => by simpa using List.all_eq_true.mp e q hq
theorem ov_eq (l : List (PySem.Str × Option Value)) {m m₀ : PySem.Str → Option Value} (hin : ∀ p ∈ l, p.2 = m p.1) (hout : ∀ y, (∀ p ∈ l, y ≠ p.1) → m y = m₀ y) : m = ov l m₀ := ov_eq0 l (fun p hp => (hin p hp).symm) hout
theorem fr_ov {g h : Heap} {L : Addr} {m m₀ : PySem.Str → Option Value} (l : List (PySem.Str × Option Value)) (F : Fr g L h m) (hin : ∀ p ∈ l, p.2 = m p.1) (hout : ∀ y, (∀ p ∈ l, y ≠ p.1) → m y = m₀ y) : Fr g L h (ov l m₀) :=
  ov_eq l hin hout ▸ F
section
variable {prog : Program} {w : World} {A : Around} {E : Value → Shared → Prop} {s : Shared} {g : Heap} {L : Addr} {env : Env} {target iter : Expr} {body : List Stmt} {pos : Pos} {Q : Flow → Shared → Prop} {m₁ : PySem.Str → Option Value}
theorem for_pairsF {a b : PySem.Str} {pa pb tp : Pos} {kk : Nat} (F₁ : Fr g L s.heap m₁) (hh : A.handled = none)
    (h : wpAny (model prog w) A (eval iter env) (fun xv s₁ => ForPairsSrc prog w A g L env a b body Q xv s₁) E s)
    (hL : env.locals = L) (ha : env.kindOf a = some .local) (hb : env.kindOf b = some .local)
    (hp : (env.scope.kind == .class || (env.scope.kind == .module && env.locals != env.globals)) = false)
    (hs : ∀ x, foldedSetIterable iter env x = pure x) : wpAny (model prog w) A (exec (.For (.Tuple [.Name a pa, .Name b pb] kk tp) iter body [] pos) env) Q E s :=
  for_pairs hh h hL ha hb hp hs
theorem for_rangeF {x : PySem.Str} {px : Pos} (F₁ : Fr g L s.heap m₁) (hh : A.handled = none)
    (h : wpAny (model prog w) A (eval iter env) (fun xv s₁ => ForRangeSrc prog w A g L env x body Q xv s₁) E s)
    (hL : env.locals = L) (hx : env.kindOf x = some .local)
    (hp : (env.scope.kind == .class || (env.scope.kind == .module && env.locals != env.globals)) = false)
    (hs : ∀ x, foldedSetIterable iter env x = pure x) : wpAny (model prog w) A (exec (.For (.Name x px) iter body [] pos) env) Q E s := for_range hh h hL hx hp hs
theorem for_tupF {x : PySem.Str} {px : Pos} (F₁ : Fr g L s.heap m₁) (hh : A.handled = none)
    (h : wpAny (model prog w) A (eval iter env) (fun xv s₁ => ForTupSrc prog w A g L env x body Q xv s₁) E s)
    (hL : env.locals = L) (hx : env.kindOf x = some .local)
    (hp : (env.scope.kind == .class || (env.scope.kind == .module && env.locals != env.globals)) = false)
    (hs : ∀ x, foldedSetIterable iter env x = pure x) : wpAny (model prog w) A (exec (.For (.Name x px) iter body [] pos) env) Q E s := for_tup hh h hL hx hp hs
end
theorem with_map {g h : Heap} {L : Addr} {m : PySem.Str → Option Value} {P : Prop} (F : Fr g L h m) (k : ∀ m₀, m₀ = m → Fr g L h m₀ → P) : P := k m rfl F

end
theorem rows40 : True := by
  k_with "m in" => (repeat' (first | exact List.forall_mem_nil _ | (refine in_cons ?_ ?_; (with_unfolding_all rfl))))
  k_with "m out" => (intro my' mhy'; (repeat' first | (with_reducible exact rfl) | refine out_mem mhy' (by with_reducible k_extra "m mem") ?_ | refine out_rmem mhy' (by with_reducible k_extra "m mem") ?_ | refine out_same mhy' ?_ _ (by rfl) | refine out_ov mhy' ?_ _ (by kernel_rfl)))
  k_with "m sub" => (intro mp' mhp'; (simp only [List.mem_cons, List.not_mem_nil, or_false, List.mem_append] at mhp' ⊢); (first | exact mhp' | (rcases mhp' with mhp' | mhp' <;> simp [mhp']) | simp [mhp']))
  k_with "m for range" => (k_here; k_dflt (refine' for_rangeF (by with_reducible assumption) (by with_unfolding_all rfl) ?_ (by rfl) (by with_unfolding_all rfl) (by rfl) (by (intro _; rfl)); k_whole))
  k_with "m for tup" => (k_here; k_dflt (refine' for_tupF (by with_reducible assumption) (by with_unfolding_all rfl) ?_ (by rfl) (by with_unfolding_all rfl) (by rfl) (by (intro _; rfl)); k_whole))
  k_with "m for pairs" => (k_here; k_dflt (refine' for_pairsF (by with_reducible assumption) (by with_unfolding_all rfl) ?_ (by rfl) (by with_unfolding_all rfl) (by with_unfolding_all rfl) (by rfl) (by (intro _; rfl)); k_whole))
  trivial
section
theorem off45 : True := by
  w_top off
  trivial
noncomputable def medianGo : Rng → Int → Option Int
  | [], _ => none
  | r :: rs, left => if left ≤ r.2 - r.1 then some (r.1 + left) else medianGo rs (left - (r.2 - r.1 + 1))
noncomputable def medianOf (rs : Rng) : Int := (medianGo rs (Int.fdiv (sizeOf' rs - 1) 2)).getD ((rs.getLast?.map (·.2)).getD 0)
section
variable {w : World} {mean : ExcName → Option Value} {mg mb : PySem.Str → Option Value} {B : Heap} {A : Around} {s : Shared} {Q E : Value → Shared → Prop}
  {a : Addr} {vs : List Value} {D dl : Addr} {hs : Nat → Int} {ts : Nat → Tok} {vf vt vm vn vsp vi vc : Value} {n : Nat} {x : Nat} {tx : Tok} {d : Addr} {items : List Value} {rs : Rng}
inductive MedJ (rs : Rng) (m0 : PySem.Str → Option Value) (i : Nat) (m : PySem.Str → Option Value) (news : List (Addr × Obj)) : Prop
  | mk (en : news = []) (left : Int) (t : Tok) (u1 u2 : Option Value) (em : m = ov [(Str.ofString "left", some (.int left t)), (Str.ofString "low", u1), (Str.ofString "high", u2)] m0) (hgo : medianGo (rs.drop i) left = medianGo rs (Int.fdiv (sizeOf' rs - 1) 2)) : MedJ rs m0 i m news
set_option pp.deepTerms false
set_option pp.deepTerms.threshold 3
theorem median_spec {self : Value} (C : Core w mean mg mb B) (hB : Stays B s.heap) (hA : Calm A 4) (hD : DeskR s.heap a vs D dl hs ts vf vt vm vn vsp vi vc n) (hx : vs[x]? = some (.ref d)) (hf : x < 2 ^ 62)
  (hd : IsTup s.heap d items.toArray) (hp : Prs s.heap items rs) (hz : rs.length ≤ 1000) (hne : rs ≠ [])
  (hret : ∀ h' tk' t, Stays s.heap h' → Q (.int (medianOf rs) t) {s with heap := h', toks := tk'}) :
  wpAny (model PR w) A (call (.ref 56) [self, .ref a, .int (x : Int) tx]) Q E s := by
  obtain ⟨p, t1, t2, r, hp0, hr0, hpt⟩ := hp.last hne
  have hi := hD.inst
  have hdd := hD.dict
  k_extra "m enter0"
  k_steps
  refine for_pairs (g := s.heap) rfl ?_
  k_steps
  rename Fr _ _ _ _ => F3
  rename News _ _ _ _ => N3
  refine with_map F3 fun m0 em0 F4 => ?_
  refine ⟨d, items, rs, MedJ rs m0,
    _, _, rfl, .inl hd, hp, F3, N3, ⟨rfl, _, _, m0 (Str.ofString "low"), m0 (Str.ofString "high"), (by subst em0; exact ov_eq _ (by k_extra "m in") (by k_extra "m out")), rfl⟩, ?_, ?_⟩
  · rintro i r h tk m I oI news t1 t2 E' hr ⟨rfl, left, t, u1, u2, rfl, hgo⟩ F5 N5 hne5
    subst em0
    clear F3 F4 N3
    have hdr : rs.drop i = r :: rs.drop (i + 1) := by
      obtain ⟨hlt, e⟩ := List.getElem?_eq_some_iff.mp hr
      rw [← e]; exact List.drop_eq_getElem_cons hlt
    rw [hdr, medianGo] at hgo
    k_steps
    · rename left ≤ _ => c
      rw [if_pos c] at hgo
      have em : medianOf rs = r.1 + left := by rw [medianOf, ← hgo]; rfl
      rw [em] at hret
      exact hret _ _ _ (Fr.keep (by assumption))
    · rename ¬ (left ≤ _) => c
      rw [if_neg c] at hgo
      exact ⟨_, _, _, _, [], rfl, by assumption, by assumption, fun _ h => h, (fun _ h => by cases h), (fun _ h => by cases h), rfl, _, _, _, _, ov_eq _ (by k_extra "m in") (by k_extra "m out"), hgo⟩
  · rintro h tk m news ⟨rfl, left, t, u1, u2, rfl, hgo⟩ F5 N5
    subst em0
    clear F3 F4 N3
    k_steps
    have em : medianOf rs = r.2 := by
      rw [medianOf, ← hgo, List.drop_length, medianGo, List.getLast?_eq_getElem?, hr0]; rfl
    rw [em] at hret
    exact hret _ _ _ (Fr.keep (by assumption))
end

end
theorem rows45 : True := by
  k_with "call ref" => (k_here; (with_reducible show wpAny _ _ (call (Value.ref 56) _) _ _ _); k_dflt (refine' median_spec (by assumption) (by k_extra "m stays") (by k_extra "m calm") (by k_extra "m desk") (by assumption) (by assumption) (by k_extra "m tup") (by k_extra "m prs") (by assumption) (by assumption) ?_; intro _ _ _ _; k_extra "m kept"))
  trivial
section
theorem off47 : True := by
  w_top off
  trivial
/-! ## order of tuples and lists -/
open PySem.SeqAt in
section
noncomputable def LtAt (A : Around) (s : Shared) (y x : Value) (b : Bool) : Prop :=
  ∀ (prog : Program) (w : World) (E : Value → Shared → Prop) (Q : Value → Shared → Prop), Q (.bool b) s → wpAny (model prog w) A (richCompare .Lt y x) Q E s
noncomputable def lexOf (e lt : Nat → Bool) : List Nat → Bool → Bool
  | [], f => f
  | j :: r, f => if e j = true then lexOf e lt r f else lt j
theorem LtAt.ints (A : Around) (s : Shared) (a : Int) (t : Tok) (b : Int) (u : Tok) : LtAt A s (.int a t) (.int b u) (decide (a < b)) := fun prog w E Q h => by
  exact lt_int h
open AutoSeq1 (wpAny_loadPart') in
open MeetsSeq MeetsSeq2 MeetsSeq3 SeqRoads2 in
theorem tuple_ltAt (l b : Addr) (items items2 : Array Value) (n n2 : Nat) (dd dd2 : Option Addr) (sl sl2 : Array (Option Value)) (e lt : Nat → Bool) :
    Meets (Builtin.«tuple.__lt__» ⟨[.ref l, .ref b], []⟩)
      (fun A R s => s.heap.get? l = some { cls := .type "tuple", dict := dd, data := .seq items n, slots := sl } ∧ s.heap.get? b = some { cls := .type "tuple", dict := dd2, data := .seq items2 n2, slots := sl2 } ∧
        (∀ j (h1 : j < items.size) (h2 : j < items2.size), EqAt A.in1 s items[j] items2[j] (e j)) ∧ (∀ j (h1 : j < items.size) (h2 : j < items2.size), e j = false → LtAt A.in1 s items[j] items2[j] (lt j)) ∧
        R (.ok (.ret (.bool (lexOf e lt (List.range (min items.size items2.size)) (decide (items.size < items2.size)))))) s) :=
  .of_wp fun prog w A R s h => by
    obtain ⟨hp, g, d, tk, os⟩ := s; obtain ⟨hl, hb, he, hlt', h⟩ := h
    have f2 := AutoSeq1.sub_tuple_tuple
    have hZ : (items.toList.zip items2.toList).length = min items.size items2.size := by simp
    wp_walk using wpAny_loadPart' hl, wpAny_loadPart' hb, wpAny_forIn_list _ (fun rest b s' => b.1 = none ∧ s' = ⟨hp, g, d, tk, os⟩ ∧ ∃ i, rest = (items.toList.zip items2.toList).drop i ∧
      R (.ok (.ret (.bool (lexOf e lt ((List.range (min items.size items2.size)).drop i) (decide (items.size < items2.size)))))) ⟨hp, g, d, tk, os⟩) _
    case turn =>
      rintro ⟨y, x⟩ rest b s' ⟨hb', rfl, i, hz, hR⟩
      have hlt : i < (items.toList.zip items2.toList).length := by
        rcases Nat.lt_or_ge i (items.toList.zip items2.toList).length with h' | h'
        · exact h'
        · rw [List.drop_of_length_le h'] at hz; cases hz
      have hm : i < min items.size items2.size := hZ ▸ hlt
      have h1 : i < items.size := Nat.lt_of_lt_of_le hm (Nat.min_le_left _ _)
      have h2 : i < items2.size := Nat.lt_of_lt_of_le hm (Nat.min_le_right _ _)
      rw [List.drop_eq_getElem_cons hlt] at hz
      injection hz with hyx hrest
      have hy : y = items[i] := by have := congrArg Prod.fst hyx; simpa using this
      have hx : x = items2[i] := by have := congrArg Prod.snd hyx; simpa using this
      subst hy hx
      have hd : (List.range (min items.size items2.size)).drop i = i :: (List.range (min items.size items2.size)).drop (i + 1) := by simp [List.drop_eq_getElem_cons, hm]
      rw [hd, lexOf] at hR
      refine wpAny_bind (he i h1 h2 prog w _ _ ?_)
      cases hy : e i with
      | true =>
        rw [hy, if_pos rfl] at hR
        wp_walk
        exact ⟨rfl, rfl, i + 1, hrest, hR⟩
      | false =>
        rw [hy, if_neg Bool.false_ne_true] at hR
        refine wpAny_bind (wpAny_rule (wpAny_bind (hlt' i h1 h2 hy prog w _ _ ?_)))
        wp_walk
        exact ⟨_, rfl, hR⟩
    case fin =>
      rintro ⟨b1, b2⟩ s' ⟨hb', rfl, i, hz, hR⟩
      simp only at hb'
      subst hb'
      have hge : min items.size items2.size ≤ i := by
        rcases Nat.lt_or_ge i (items.toList.zip items2.toList).length with h' | h'
        · rw [List.drop_eq_getElem_cons h'] at hz; cases hz
        · exact hZ ▸ h'
      rw [List.drop_of_length_le (by simpa using hge), lexOf] at hR
      wp_walk
      exact ⟨_, rfl, by simpa [Builtin.Tuple.tupleCompareSizes] using hR⟩
    case h =>
      exact ⟨rfl, rfl, 0, rfl, by simpa using h⟩
end
section
variable {A : Around} {s : Shared}
open PySem.SeqAt in
theorem LtAt.tuples {l b : Addr} {items items2 : Array Value} {e lt : Nat → Bool} (hl : IsTup s.heap l items) (hb : IsTup s.heap b items2) (hu : A.units < cLine)
    (he : ∀ j (h1 : j < items.size) (h2 : j < items2.size), EqAt A.in1 s items[j] items2[j] (e j)) (hlt : ∀ j (h1 : j < items.size) (h2 : j < items2.size), e j = false → LtAt A.in1 s items[j] items2[j] (lt j)) :
    LtAt A s (.ref l) (.ref b) (lexOf e lt (List.range (min items.size items2.size)) (decide (items.size < items2.size))) := fun prog w E Q h => by
  obtain ⟨⟨cls, dd, data, sl⟩, ho, hc, n, hd⟩ := id hl
  obtain ⟨⟨cls2, dd2, data2, sl2⟩, ho2, hc2, n2, hd2⟩ := id hb
  simp only at hc hd hc2 hd2
  subst hc hd hc2 hd2
  exact richCompare_meets_room (op := .Lt) ⟨_, ho, rfl⟩ ⟨_, ho2, rfl⟩ PySem.F.slot_tuple_lt PySem.F.entry_tuple_lt (PySem.F.args_tuple_lt_2 _ _) (tuple_ltAt l b items items2 n n2 dd dd2 sl sl2 e lt)
    ⟨ho, ho2, he, hlt, show Value.bool _ ≠ Value.notImplemented ∧ Q (.bool _) s from ⟨(fun x => nomatch x), h⟩⟩ hu
end
noncomputable def lexLt (p q : Int × Int) : Bool := decide (p.1 < q.1 ∨ (p.1 = q.1 ∧ p.2 < q.2))
open PySem.SeqAt in
theorem lt_pairs {prog : Program} {w : World} {A : Around} {E : Value → Shared → Prop} {s : Shared} {x y : Addr} {p q : Int × Int} {Q : Value → Shared → Prop} (hx : PairAt s.heap (.ref x) p) (hy : PairAt s.heap (.ref y) q) (hu : A.units < cLine) (h : Q (.bool (lexLt p q)) s) :
    wpAny (model prog w) A (compareOp .Lt (.ref x) (.ref y)) Q E s := by
  obtain ⟨_, t1, t2, e1, hx⟩ := hx
  obtain ⟨_, u1, u2, e2, hy⟩ := hy
  cases e1; cases e2
  have := LtAt.tuples (A := A) (e := fun j => if j = 0 then p.1 == q.1 else p.2 == q.2) (lt := fun j => if j = 0 then decide (p.1 < q.1) else decide (p.2 < q.2)) hx hy hu (fun j h1 h2 => ?_) (fun j h1 h2 _ => ?_)
  · refine this prog w E Q ?_
    have e : (lexOf (fun j => if j = 0 then p.1 == q.1 else p.2 == q.2) (fun j => if j = 0 then decide (p.1 < q.1) else decide (p.2 < q.2)) (List.range (min (#[Value.int p.1 t1, Value.int p.2 t2]).size (#[Value.int q.1 u1, Value.int q.2 u2]).size)) (decide ((#[Value.int p.1 t1, Value.int p.2 t2]).size < (#[Value.int q.1 u1, Value.int q.2 u2]).size))) = lexLt p q := by
      show lexOf _ _ [0, 1] false = _
      simp only [lexOf, lexLt]
      by_cases c1 : p.1 = q.1
      · by_cases c2 : p.2 = q.2
        · simp [c1, c2]
        · simp [c1, c2]
      · have : p.1 < q.1 ∨ q.1 < p.1 := by omega
        simp [c1]
    rw [e]; exact h
  · have hj : j < 2 := h1
    have : j = 0 ∨ j = 1 := by omega
    rcases this with rfl | rfl
    · exact EqAt.int_int _ _ _ _
    · exact EqAt.int_int _ _ _ _
  · have hj : j < 2 := h1
    have : j = 0 ∨ j = 1 := by omega
    rcases this with rfl | rfl
    · exact LtAt.ints _ _ _ _ _ _
    · exact LtAt.ints _ _ _ _ _ _

end
section
theorem off50 : True := by
  w_top off
  trivial
/-! ## the brancher -/
noncomputable def ordName (o : Nat) : String := if o = 0 then "input_order" else if o = 1 then "first_fail" else if o = 2 then "smallest" else if o = 3 then "largest" else "most_constrained"
noncomputable abbrev brObj (D : Addr) : Obj := ⟨.ref 66, some D, .plain, #[]⟩
noncomputable abbrev brEs (hs : Nat → Int) (ts : Nat → Tok) (v1 v2 v3 v4 : Value) : List DictEntry :=
  [⟨hs 0, .str (Str.ofString "some") (ts 0), v1⟩, ⟨hs 1, .str (Str.ofString "order") (ts 1), v2⟩, ⟨hs 2, .str (Str.ofString "choice") (ts 2), v3⟩, ⟨hs 3, .str (Str.ofString "degrees") (ts 3), v4⟩]
structure BrR (w : World) (h : Heap) (b Db : Addr) (hs : Nat → Int) (ts : Nat → Tok) (sa : Addr) (row : List Value) (o : Nat) (t1 t2 : Tok) (dg : Addr) (f : Int → Option Value) (n : Nat) : Prop where
  inst : h.get? b = some (brObj Db)
  dict : h.get? Db = some (dictOf (brEs hs ts (.ref sa) (.str (Str.ofString (ordName o)) t1) (.str (Str.ofString "median") t2) (.ref dg)) n)
  row : IsTup h sa row.toArray
  deg : h.MapOf (intKind PR w) dg f
  degn : (dg == sysModules) = false
theorem mapOf_mono {w : World} {h h' : Heap} {a : Addr} {f : Int → Option Value} (k : Stays h h') (x : h.MapOf (intKind PR w) a f) : h'.MapOf (intKind PR w) a f := let ⟨o, es, ep, ho, r⟩ := x; ⟨o, es, ep, k _ _ ho, r⟩
theorem BrR.mono {w : World} {h h' : Heap} {b Db : Addr} {hs : Nat → Int} {ts : Nat → Tok} {sa : Addr} {row : List Value} {o : Nat} {t1 t2 : Tok} {dg : Addr} {f : Int → Option Value} {n : Nat} (k : Stays h h') (x : BrR w h b Db hs ts sa row o t1 t2 dg f n) :
    BrR w h' b Db hs ts sa row o t1 t2 dg f n := ⟨k _ _ x.inst, k _ _ x.dict, x.row.keeps k, mapOf_mono k x.deg, x.degn⟩
noncomputable def lowOf (rs : Rng) : Int := (rs.head?.map (·.1)).getD 0
noncomputable def highOf (rs : Rng) : Int := (rs.getLast?.map (·.2)).getD 0
noncomputable def rankOf (o : Nat) (rs : Rng) (dx : Int) : Int × Int :=
  if o = 1 then (sizeOf' rs, 0) else if o = 2 then (lowOf rs, 0) else if o = 3 then (-highOf rs, 0) else if o = 4 then (sizeOf' rs, -dx) else (0, 0)
theorem dict_get2 {w : World} {A : Around} {E : Value → Shared → Prop} {s : Shared} {d : Addr} {f : Int → Option Value} {k : Int} {tk : Tok} {dflt v : Value} {Q : Value → Shared → Prop} (hm : s.heap.MapOf (intKind PR w) d f) (hd : (d == sysModules) = false) (hv : f k = some v)
    (h : ∀ tk', Q v { s with toks := tk' }) : wpAny (model PR w) A (call (.builtin "dict.get") [.ref d, .int k tk, dflt]) Q E s := by
  have e : (f k).getD dflt = v := by rw [hv]; rfl
  exact call_meetsIn PySem.F.slot_dict_get hm.typeIs PySem.F.entry_dict_get (PySem.F.args_dict_get_3 _ _ _) (meets_dict_get_default (intKind PR w) d (intKind_is PR w k tk) hd dflt) ⟨f, hm, by rw [e]; exact h _⟩
theorem getMethod_deg {w : World} {A : Around} {E : Value → Shared → Prop} {s : Shared} {d : Addr} {f : Int → Option Value} {pl : Sem Bool} {Q : Value × List Value → Shared → Prop} (hm : s.heap.MapOf (intKind PR w) d f) (h : Q (.builtin "dict.get", [.ref d]) s) :
    wpAny (model PR w) A (getMethod (.ref d) "get" pl) Q E s := getMethod_builtin hm.typeIs PySem.F.plainAttrs_dict PySem.F.slot_dict_get PySem.F.type_dict_get hm.noDict h
theorem fr_map {w : World} {g h : Heap} {L a : Addr} {m : PySem.Str → Option Value} {f : Int → Option Value} (F : Fr g L h m) (x : g.MapOf (intKind PR w) a f) : h.MapOf (intKind PR w) a f := mapOf_mono F.keep x
theorem own50_1 : True := by
  k_with "m map" => first | assumption | exact fr_map (by with_reducible assumption) (by with_reducible assumption)
  k_with "getMethod ref" => (k_here; (with_reducible show wpAny _ _ (getMethod (Value.ref _) (PySem.Str.ofString "get") _) _ _ _); k_dflt (refine' getMethod_deg (by k_extra "m map") ?_; k_whole))
  k_with "call builtin:dict.get" => (k_here; (with_reducible show wpAny _ _ (call (Value.builtin "dict.get") [Value.ref _, Value.int _ _, _]) _ _ _); k_dflt (refine' dict_get2 (by k_extra "m map") (by assumption) (by assumption) ?_; k_whole; intro _))
  trivial
section
variable {w : World} {mean : ExcName → Option Value} {mg mb : PySem.Str → Option Value} {B : Heap} {A : Around} {s : Shared} {Q E : Value → Shared → Prop}
  {a : Addr} {vs : List Value} {D dl : Addr} {hs : Nat → Int} {ts : Nat → Tok} {vf vt vm vn vsp vi vc : Value} {n : Nat} {x : Nat} {tx : Tok} {d : Addr} {items : List Value} {rs : Rng}
  {b Db : Addr} {hs' : Nat → Int} {ts' : Nat → Tok} {sa : Addr} {row : List Value} {o : Nat} {to tc : Tok} {dg : Addr} {f : Int → Option Value} {n' : Nat} {dx : Int} {tdx : Tok}
set_option pp.deepTerms false
set_option pp.deepTerms.threshold 3
theorem rank_spec (C : Core w mean mg mb B) (hB : Stays B s.heap) (hA : Calm A 4) (hD : DeskR s.heap a vs D dl hs ts vf vt vm vn vsp vi vc n) (hR : BrR w s.heap b Db hs' ts' sa row o to tc dg f n') (ho : o < 5) (hfx : f (x : Int) = some (.int dx tdx))
  (hx : vs[x]? = some (.ref d)) (hf : x < 2 ^ 62) (hd : IsTup s.heap d items.toArray) (hp : Prs s.heap items rs) (hz : rs.length ≤ 1000) (hne : rs ≠ [])
  (hret : ∀ h' tk' p t1 t2, Stays s.heap h' → s.heap.get? p = none → h'.get? p = some (tupObj [.int (rankOf o rs dx).1 t1, .int (rankOf o rs dx).2 t2]) → Q (.ref p) {s with heap := h', toks := tk'}) :
  wpAny (model PR w) A (call (.ref 42) [.ref b, .ref a, .int (x : Int) tx]) Q E s := by
  obtain ⟨p, t1, t2, r, hp0, hr0, hpt⟩ := hp.last hne
  obtain ⟨p', t1', t2', r', hp0', hr0', hpt'⟩ := hp.first hne
  have hi := hD.inst
  have hdd := hD.dict
  have hlow : lowOf rs = r'.1 := by rw [lowOf, List.head?_eq_getElem?, hr0']; rfl
  have hhigh : highOf rs = r.2 := by rw [highOf, List.getLast?_eq_getElem?, hr0]; rfl
  have c5 : o = 0 ∨ o = 1 ∨ o = 2 ∨ o = 3 ∨ o = 4 := by omega
  obtain ⟨hbi, hbd, hbr, hbg, hbs⟩ := hR
  rcases c5 with rfl | rfl | rfl | rfl | rfl
  all_goals (dsimp only [ordName] at hbd; simp only [reduceIte, Nat.reduceEqDiff] at hbd)
  all_goals k_extra "m enter0"
  all_goals k_steps
  · exact hret _ _ _ _ _ (Fr.keep (by assumption)) (News.fresh (by assumption) (.head _)) (News.get (by assumption) (.head _))
  · exact hret _ _ _ _ _ (Fr.keep (by assumption)) (News.fresh (by assumption) (.head _)) (News.get (by assumption) (.head _))
  · rw [show rankOf 2 rs dx = (lowOf rs, 0) from rfl, hlow] at hret
    exact hret _ _ _ _ _ (Fr.keep (by assumption)) (News.fresh (by assumption) (.head _)) (News.get (by assumption) (.head _))
  · rw [show rankOf 3 rs dx = (-highOf rs, 0) from rfl, hhigh] at hret
    exact hret _ _ _ _ _ (Fr.keep (by assumption)) (News.fresh (by assumption) (.head _)) (News.get (by assumption) (.head _))
  · exact hret _ _ _ _ _ (Fr.keep (by assumption)) (News.fresh (by assumption) (.head _)) (News.get (by assumption) (.head _))
end

end
theorem rows50 : True := by
  k_with_none
  k_with "m mem" => first | exact mem0 | exact mem1 | exact mem2 | exact mem3 | (refine' mem4 ?_; k_extra "m mem")
  k_with "k ne" => (refine neN ?_; (try dsimp only); k_extra "m ne0")
  k_with "m lt0" => first | with_reducible assumption | (refine lt_from (by with_reducible assumption) ?_; intro hh; first | exact hh.1 | exact hh.2 | exact hh.2.1 | exact hh.2.2 | exact hh.2.2.1 | exact hh.2.2.2 | exact hh.2.2.2.1 | exact hh.2.2.2.2 | exact hh.2.2.2.2.1 | exact hh.2.2.2.2.2 | exact hh.2.2.2.2.2.1 | exact hh.2.2.2.2.2.2 | exact hh.2.2.2.2.2.2.1 | exact hh.2.2.2.2.2.2.2 | exact hh.2.2.2.2.2.2.2.1 | exact hh.2.2.2.2.2.2.2.2 | exact hh.2.2.2.2.2.2.2.2.1 | exact hh.2.2.2.2.2.2.2.2.2 | exact hh.2.2.2.2.2.2.2.2.2.1 | exact hh.2.2.2.2.2.2.2.2.2.2 | exact hh.2.2.2.2.2.2.2.2.2.2.1 | exact hh.2.2.2.2.2.2.2.2.2.2.2 | exact hh.2.2.2.2.2.2.2.2.2.2.2.1 | exact hh.2.2.2.2.2.2.2.2.2.2.2.2 | exact hh.2.2.2.2.2.2.2.2.2.2.2.2.1 | exact hh.2.2.2.2.2.2.2.2.2.2.2.2.2 | exact hh.2.2.2.2.2.2.2.2.2.2.2.2.2.1 | exact hh.2.2.2.2.2.2.2.2.2.2.2.2.2.2 | exact hh.2.2.2.2.2.2.2.2.2.2.2.2.2.2.1 | exact hh.2.2.2.2.2.2.2.2.2.2.2.2.2.2.2 | exact hh.2.2.2.2.2.2.2.2.2.2.2.2.2.2.2.1 | exact hh.2.2.2.2.2.2.2.2.2.2.2.2.2.2.2.2 | exact hh.2.2.2.2.2.2.2.2.2.2.2.2.2.2.2.2.1 | exact hh.2.2.2.2.2.2.2.2.2.2.2.2.2.2.2.2.2 | exact hh.2.2.2.2.2.2.2.2.2.2.2.2.2.2.2.2.2.1 | exact hh.2.2.2.2.2.2.2.2.2.2.2.2.2.2.2.2.2.2 | exact hh.2.2.2.2.2.2.2.2.2.2.2.2.2.2.2.2.2.2.1 | exact hh.2.2.2.2.2.2.2.2.2.2.2.2.2.2.2.2.2.2.2 | exact hh.2.2.2.2.2.2.2.2.2.2.2.2.2.2.2.2.2.2.2.1 | exact hh.2.2.2.2.2.2.2.2.2.2.2.2.2.2.2.2.2.2.2.2 | exact hh.2.2.2.2.2.2.2.2.2.2.2.2.2.2.2.2.2.2.2.2.1 | exact hh.2.2.2.2.2.2.2.2.2.2.2.2.2.2.2.2.2.2.2.2.2 | exact hh.2.2.2.2.2.2.2.2.2.2.2.2.2.2.2.2.2.2.2.2.2.1 | exact hh.2.2.2.2.2.2.2.2.2.2.2.2.2.2.2.2.2.2.2.2.2.2)
  k_with "m lt" => first | k_extra "m lt0" | omega
  k_with "m ne0" => first | with_reducible assumption | exact Ne.symm (by with_reducible assumption) | exact Nat.ne_of_lt (by k_extra "m lt0") | exact Nat.ne_of_gt (by k_extra "m lt0")
  k_with "m fill" => (have hfill : Challenge.rw_pq0372_01 = Challenge.rw_pq0372_01 ∧ KF = KF := (by k_fill; exact ⟨rfl, rfl⟩); clear hfill)
  k_with "m around" => ((rename Around => mA'); (rcases mA' with ⟨_, _, _, _, _⟩); (have mE' := Calm.hh (by with_reducible assumption)); (dsimp only at mE'); subst mE')
  k_with "m enter0" => (k_extra "m around"; k_extra "m fill"; refine wpAny_call ?_; k_dflt (refine' enter0 (by assumption) (by assumption) (by assumption) (by k_is) (by k_is) (by exact BindsTo.of_eq rfl) (by exact locs rfl) ?_ (by exact rfl) (by exact rfl) (by exact rfl) (by decide); k_whole; intro _ _ _ _ _ _ _ _ _; (try dsimp only); (try k_fold)))
  k_with "m enterC0" => (k_extra "m around"; k_extra "m fill"; refine wpAny_call ?_; k_dflt (refine' enterC0 (by assumption) (by assumption) (by assumption) (by k_is) (by k_is) (by exact BindsTo.of_eq rfl) (by rfl) (by decide) ?_ (by exact rfl) (by exact rfl) (by exact rfl); k_whole; intro _ _ _ _ _ _ _ _ _ _ _; (try dsimp only); (try k_fold)))
  k_with "m cell1" => ((rename CellsAre _ _ _ => mY'); (with_unfolding_all have mY2' := CellsAre.one mY'); (obtain ⟨_, me', _⟩ := mY2'); (subst me'); clear mY')
  k_with "m cell2" => ((rename CellsAre _ _ _ => mY'); (with_unfolding_all have mY2' := CellsAre.two mY'); (obtain ⟨_, _, me', _, _⟩ := mY2'); (subst me'); clear mY')
  k_with "m tup" => first | assumption | exact fr_tup (by with_reducible assumption) (by with_reducible assumption) | exact News.isTup (by with_reducible assumption) (by news_mem)
  k_with "m list" => first | assumption | exact fr_list (by with_reducible assumption) (by with_reducible assumption) | exact News.isList (by with_reducible assumption) (by news_mem)
  k_with "call builtin:len" => (k_here; (with_reducible show wpAny _ _ (call (Value.builtin "len") [Value.ref _]) _ _ _); k_dflt first | (refine' len_tup (by k_extra "m tup") (by first | assumption | (with_reducible decide) | omega | (simp only [List.length_append, List.length_cons, List.length_nil]; first | decide | omega)) ?_; k_whole; intro _ _) | (refine' len_lst (by k_extra "m list") (by first | assumption | (with_reducible decide) | omega | (simp only [List.length_append, List.length_cons, List.length_nil]; first | decide | omega)) ?_; k_whole; intro _ _))
  k_with "subscriptTail" => (k_here; (with_reducible show wpAny _ _ (subscriptTail _ _ (Value.ref _) (Value.int (-1) _)) _ _ _); (with_unfolding_all refine' tup_last (by k_extra "m tup") (by first | assumption | rfl) ?_ (by with_unfolding_all rfl); k_whole))
  k_with "subscriptTail" => (k_here; (with_reducible show wpAny _ _ (subscriptTail _ _ (Value.ref _) (Value.int _ _)) _ _ _); (with_unfolding_all apply tup_at); (case ht => k_extra "m tup"); (first | ((case hk => with_unfolding_all rfl); (case hx => first | assumption | rfl)) | ((case hx => assumption); (case hk => omega))); (case hf => first | decide | omega); (case hs => with_unfolding_all rfl); k_whole)
  k_with "subscriptTail" => (k_here; (with_reducible show wpAny _ _ (subscriptTail _ _ (Value.ref _) (Value.int _ _)) _ _ _); (with_unfolding_all apply list_at); (case ht => k_extra "m list"); (first | ((case hk => with_unfolding_all rfl); (case hx => first | assumption | rfl)) | ((case hx => assumption); (case hk => omega))); (case hf => first | decide | omega); (case hs => with_unfolding_all rfl); k_whole)
  k_with "k inst" => exact instAt_base (by assumption) (by assumption) (by assumption)
  k_with "m stays" => first | with_reducible assumption | exact stays_fr (by with_reducible assumption) (by with_reducible assumption)
  k_with "m calm" => exact Calm.le (by assumption) (by decide)
  k_with "m kept" => ((rename Fr _ _ _ _ => kF'); (rename News _ _ _ _ => kN'); (refine kept_of (by with_reducible assumption) kF' kN' ?_); clear kF' kN'; intro _ _; (try dsimp only); (try k_fold))
  k_with "eval Name" => ((with_reducible show wpAny _ _ (eval (Expr.Name _ _) (compEnvC _ _ _ _)) _ _ _); k_dflt first | (apply comp_local; (case F => with_reducible assumption); (case hk => rfl); (case hl => with_unfolding_all rfl); (case hd => decide); (case hm => first | with_reducible assumption | with_unfolding_all rfl); k_whole) | (apply comp_cell; (case F => with_reducible assumption); (case hk => rfl); (case hl => with_unfolding_all rfl); (case hd => decide); (case hc => with_unfolding_all rfl); (case ho => assumption); (case hv => with_reducible assumption); k_whole) | (apply comp_builtin; (case F => with_reducible assumption); (case T => with_reducible assumption); (case k => with_reducible assumption); (case hg => rfl); (case hb => rfl); (case hk => rfl); (case hx => with_unfolding_all rfl); (case hd => decide); (case h2 => first | exact mb_max (by with_reducible assumption) | exact mb_min (by with_reducible assumption)); (case h1 => first | exact mg_max (by with_reducible assumption) | exact mg_min (by with_reducible assumption)); k_whole))
  k_with "call builtin:max" => ((with_reducible show wpAny _ _ (call (Value.builtin _) [Value.int _ _, Value.int _ _]) _ _ _); k_dflt (refine' comp_max (by with_reducible assumption) (by first | exact Calm.hh (by assumption) | with_unfolding_all rfl) ?_; k_whole; intro _ _ _ _ _))
  k_with "call builtin:min" => ((with_reducible show wpAny _ _ (call (Value.builtin _) [Value.int _ _, Value.int _ _]) _ _ _); k_dflt (refine' comp_min (by with_reducible assumption) (by first | exact Calm.hh (by assumption) | with_unfolding_all rfl) ?_; k_whole; intro _ _ _ _ _))
  k_with "newTuple" => (k_dflt (refine' comp_tuple (by with_reducible assumption) ?_ (by rfl); k_whole; intro _ _ _ _))
  k_with "call type:tuple" => ((with_reducible show wpAny _ _ (call (Value.type _) [Value.ref _]) _ _ _); k_dflt (refine' tuple_of (by with_reducible assumption) (by with_reducible assumption) (by k_extra "m list") (by first | assumption | omega) ?_; k_whole; intro _ _ _ _ _ _))
  k_with "call ref" => (k_here; (with_reducible show wpAny _ _ (call (Value.ref 77) _) _ _ _); k_dflt (refine' least_spec (by assumption) (by k_extra "m stays") (by k_extra "m calm") (by k_extra "m tup") (by assumption) (by k_extra "m tup") ?_; intro _ _ _ _; k_extra "m kept"))
  k_with "call ref" => (k_here; (with_reducible show wpAny _ _ (call (Value.ref 84) _) _ _ _); k_dflt (refine' greatest_spec (by assumption) (by k_extra "m stays") (by k_extra "m calm") (by k_extra "m tup") (by assumption) (by k_extra "m tup") ?_; intro _ _ _ _; k_extra "m kept"))
  k_with "call ref" => (k_here; (with_reducible show wpAny _ _ (call (Value.ref 183) _) _ _ _); k_dflt (refine' dom_spec (by assumption) (by k_extra "m stays") (by k_extra "m calm") (by k_extra "m desk") (by assumption) (by assumption) ?_; intro _ _ _; k_extra "m kept"))
  k_with "call ref" => (k_here; (with_reducible show wpAny _ _ (call (Value.ref 197) _) _ _ _); k_dflt (refine' low_spec (by assumption) (by k_extra "m stays") (by k_extra "m calm") (by k_extra "m desk") (by assumption) (by assumption) (by k_extra "m tup") (by assumption) (by k_extra "m tup") ?_; intro _ _ _ _; k_extra "m kept"))
  k_with "call ref" => (k_here; (with_reducible show wpAny _ _ (call (Value.ref 204) _) _ _ _); k_dflt (refine' high_spec (by assumption) (by k_extra "m stays") (by k_extra "m calm") (by k_extra "m desk") (by assumption) (by assumption) (by k_extra "m tup") (by assumption) (by k_extra "m tup") ?_; intro _ _ _ _; k_extra "m kept"))
  k_with "call ref" => (k_here; (with_reducible show wpAny _ _ (call (Value.ref 89) _) _ _ _); k_dflt (refine' size_spec (by assumption) (by k_extra "m stays") (by k_extra "m calm") (by k_extra "m tup") (by first | assumption | exact Prs.mono (Fr.keep (by with_reducible assumption)) (by with_reducible assumption)) (by assumption) ?_; intro _ _ _ _; k_extra "m kept"))
  k_with "m prs" => first | with_reducible assumption | exact Prs.mono (Fr.keep (by with_reducible assumption)) (by with_reducible assumption)
  k_with "call ref" => (k_here; (with_reducible show wpAny _ _ (call (Value.ref 108) _) _ _ _); k_dflt (refine' upTo_spec (by assumption) (by k_extra "m stays") (by k_extra "m calm") (by k_extra "m tup") (by k_extra "m prs") (by assumption) ?_; intro _ _ _ kc dc; (obtain ⟨ac, vc, ec, tc, pc⟩ := dc); subst ec; revert kc ac vc tc pc; intro _ _ _ _ _; k_extra "m kept"))
  k_with "call ref" => (k_here; (with_reducible show wpAny _ _ (call (Value.ref 113) _) _ _ _); k_dflt (refine' fromOn_spec (by assumption) (by k_extra "m stays") (by k_extra "m calm") (by k_extra "m tup") (by k_extra "m prs") (by assumption) ?_; intro _ _ _ kc dc; (obtain ⟨ac, vc, ec, tc, pc⟩ := dc); subst ec; revert kc ac vc tc pc; intro _ _ _ _ _; k_extra "m kept"))
  k_with "call ref" => (k_here; (with_reducible show wpAny _ _ (call (Value.ref 120) _) _ _ _); k_dflt (refine' without_spec (by assumption) (by k_extra "m stays") (by k_extra "m calm") (by k_extra "m tup") (by k_extra "m prs") (by assumption) ?_; intro _ _ _ kc dc; (obtain ⟨ac, vc, ec, tc, pc⟩ := dc); subst ec; revert kc ac vc tc pc; intro _ _ _ _ _; k_extra "m kept"))
  k_with "call ref" => (k_here; (with_reducible show wpAny _ _ (call (Value.ref 141) _) _ _ _); k_dflt (refine' struck_spec (by assumption) (by k_extra "m stays") (by k_extra "m calm") (by assumption) (by first | assumption | exact LitAt.mono (Fr.keep (by with_reducible assumption)) (by with_reducible assumption)) (by k_extra "m tup") (by k_extra "m prs") (by assumption) ?_; intro _ _ _ kc dc; (obtain ⟨ac, vc, ec, tc, pc⟩ := dc); subst ec; revert kc ac vc tc pc; intro _ _ _ _ _; k_extra "m kept"))
  k_with "m desk" => first | assumption | exact DeskR.mono (Fr.keep (by with_reducible assumption)) (by assumption) | exact DeskR.mono (by with_reducible assumption) (by assumption)
  k_with "call ref" => (k_here; (with_reducible show wpAny _ _ (call (Value.ref 232) _) _ _ _); k_dflt (refine' width_spec (by assumption) (by k_extra "m stays") (by k_extra "m calm") (by k_extra "m desk") (by assumption) (by assumption) (by k_extra "m tup") (by k_extra "m prs") (by assumption) ?_; intro _ _ _ _; k_extra "m kept"))
  k_with "call ref" => (k_here; (with_reducible show wpAny _ _ (call (Value.ref 218) _) _ _ _); k_dflt (refine' is_fixed_spec (by assumption) (by k_extra "m stays") (by k_extra "m calm") (by k_extra "m desk") (by assumption) (by assumption) (by k_extra "m tup") (by k_extra "m prs") (by assumption) (by assumption) ?_; intro _ _ _; k_extra "m kept"))
  k_with "m in" => (repeat' (first | exact List.forall_mem_nil _ | (refine in_cons ?_ ?_; (with_unfolding_all rfl))))
  k_with "m out" => (intro my' mhy'; (repeat' first | (with_reducible exact rfl) | refine out_mem mhy' (by with_reducible k_extra "m mem") ?_ | refine out_rmem mhy' (by with_reducible k_extra "m mem") ?_ | refine out_same mhy' ?_ _ (by rfl) | refine out_ov mhy' ?_ _ (by kernel_rfl)))
  k_with "m sub" => (intro mp' mhp'; (simp only [List.mem_cons, List.not_mem_nil, or_false, List.mem_append] at mhp' ⊢); (first | exact mhp' | (rcases mhp' with mhp' | mhp' <;> simp [mhp']) | simp [mhp']))
  k_with "m for range" => (k_here; k_dflt (refine' for_rangeF (by with_reducible assumption) (by with_unfolding_all rfl) ?_ (by rfl) (by with_unfolding_all rfl) (by rfl) (by (intro _; rfl)); k_whole))
  k_with "m for tup" => (k_here; k_dflt (refine' for_tupF (by with_reducible assumption) (by with_unfolding_all rfl) ?_ (by rfl) (by with_unfolding_all rfl) (by rfl) (by (intro _; rfl)); k_whole))
  k_with "m for pairs" => (k_here; k_dflt (refine' for_pairsF (by with_reducible assumption) (by with_unfolding_all rfl) ?_ (by rfl) (by with_unfolding_all rfl) (by with_unfolding_all rfl) (by rfl) (by (intro _; rfl)); k_whole))
  k_with "call ref" => (k_here; (with_reducible show wpAny _ _ (call (Value.ref 56) _) _ _ _); k_dflt (refine' median_spec (by assumption) (by k_extra "m stays") (by k_extra "m calm") (by k_extra "m desk") (by assumption) (by assumption) (by k_extra "m tup") (by k_extra "m prs") (by assumption) (by assumption) ?_; intro _ _ _ _; k_extra "m kept"))
  k_with "m map" => first | assumption | exact fr_map (by with_reducible assumption) (by with_reducible assumption)
  k_with "m br" => first | assumption | exact BrR.mono (Fr.keep (by with_reducible assumption)) (by assumption) | exact BrR.mono (by with_reducible assumption) (by assumption)
  k_with "call ref" => (k_here; (with_reducible show wpAny _ _ (call (Value.ref 42) _) _ _ _); k_dflt (refine' rank_spec (by assumption) (by k_extra "m stays") (by k_extra "m calm") (by k_extra "m desk") (by k_extra "m br") (by assumption) (by assumption) (by assumption) (by assumption) (by k_extra "m tup") (by k_extra "m prs") (by assumption) (by assumption) ?_; intro _ _ _ _ _ kc fc oc; (rename Fr _ _ _ _ => kF'); (rename News _ _ _ _ => kN'); (have F' := Fr.keeps kF' kc); (have N' := news_fresh kF' kN' kc fc oc); clear kF' kN'; revert kc fc oc F' N'; intro _ _ _ _ _; (try dsimp only); (try k_fold)))
  trivial
section
theorem off52 : True := by
  w_top off
  trivial
/-- the domains as the store's list holds them -/
noncomputable def VarsAt (h : Heap) (vs : List Value) (doms : List Rng) : Prop :=
  vs.length = doms.length ∧ ∀ (x : Nat) rs, doms[x]? = some rs → ∃ d items, vs[x]? = some (.ref d) ∧ IsTup h d (List.toArray items) ∧ Prs h items rs ∧ rs ≠ [] ∧ rs.length ≤ 1000
theorem VarsAt.mono {h h' : Heap} {vs : List Value} {doms : List Rng} (k : Stays h h') (x : VarsAt h vs doms) : VarsAt h' vs doms :=
  ⟨x.1, fun y rs e => let ⟨d, items, a1, a2, a3, a4, a5⟩ := x.2 y rs e; ⟨d, items, a1, a2.keeps k, a3.mono k, a4, a5⟩⟩
noncomputable def RowIs (vals : List Value) (row : List Nat) : Prop := IntsAre vals (row.map fun (x : Nat) => (x : Int))
noncomputable def DegsAt (f : Int → Option Value) (deg : Nat → Int) (many : Nat) : Prop := ∀ x, x < many → ∃ t, f (x : Int) = some (.int (deg x) t)
noncomputable def nextStep (doms : List Rng) (o : Nat) (deg : Nat → Int) (st : Int × (Int × Int)) (x : Nat) : Int × (Int × Int) :=
  if fixedOf (doms.getD x []) = true then st else if st.1 < 0 ∨ lexLt (rankOf o (doms.getD x []) (deg x)) st.2 = true then ((x : Int), rankOf o (doms.getD x []) (deg x)) else st
noncomputable def nextOf (doms : List Rng) (o : Nat) (deg : Nat → Int) (row : List Nat) : Int := (row.foldl (nextStep doms o deg) (-1, (0, 0))).1
theorem RowIs.get {vals : List Value} {row : List Nat} (h : RowIs vals row) {i : Nat} {v : Value} (e : vals[i]? = some v) : ∃ x t, row[i]? = some x ∧ v = .int (x : Int) t := by
  have hl := IntsAre.length h
  have hi : i < row.length := by
    obtain ⟨hlt, _⟩ := List.getElem?_eq_some_iff.mp e
    simpa [hl] using hlt
  obtain ⟨t, ht⟩ := IntsAre.get h i (row[i] : Int) (by simp [hi])
  rw [e] at ht
  exact ⟨row[i], t, by simp, Option.some.inj ht⟩
theorem news_tail {g h : Heap} {L : Addr} {p : Addr × Obj} {l : List (Addr × Obj)} (N : News g L h (p :: l)) : News g L h l := fun q hq => N q (.tail _ hq)
theorem Stays.get {h h' : Heap} {a : Addr} {o : Obj} (k : Stays h h') (e : h.get? a = some o) : h'.get? a = some o := k _ _ e
theorem sep1 {I : Nat} {l : List (Addr × Obj)} (h : ∀ r ∈ l, @Ne Nat r.1 I) {oI : Obj} : ∀ r ∈ l, ∀ u ∈ [(I, oI)], @Ne Nat r.1 u.1 := fun r hr u hu => by cases List.mem_singleton.mp hu; exact h r hr
theorem foldl_take_succ {α β : Type} (f : β → α → β) (z : β) (l : List α) (i : Nat) (x : α) (h : l[i]? = some x) : (l.take (i + 1)).foldl f z = f ((l.take i).foldl f z) x := by
  rw [List.take_add_one, h]; simp
section
variable {w : World} {mean : ExcName → Option Value} {mg mb : PySem.Str → Option Value} {B : Heap} {A : Around} {s : Shared} {Q E : Value → Shared → Prop}
  {a : Addr} {vs : List Value} {D dl : Addr} {hs : Nat → Int} {ts : Nat → Tok} {vf vt vm vn vsp vi vc : Value} {n : Nat}
  {b Db : Addr} {hs' : Nat → Int} {ts' : Nat → Tok} {sa : Addr} {vals : List Value} {o : Nat} {to tc : Tok} {dg : Addr} {f : Int → Option Value} {n' : Nat}
  {doms : List Rng} {row : List Nat} {deg : Nat → Int}
theorem own52_1 : True := by
  k_with "exec For Name Attribute cons nil" => k_extra "m for tup"
  k_with "compareOp Lt ref ref" => (k_here; k_dflt (refine' lt_pairs (by exact pair_made (News.get (by with_reducible assumption) (by news_mem))) (by exact pair_made (News.get (by with_reducible assumption) (by news_mem))) (by exact Calm.u (by assumption)) ?_; k_whole))
  trivial
inductive NextJ (doms : List Rng) (o : Nat) (deg : Nat → Int) (row : List Nat) (m0 : PySem.Str → Option Value) (i : Nat) (m : PySem.Str → Option Value) (news : List (Addr × Obj)) : Prop
  | mk (best : Int) (rank : Int × Int) (p : Addr) (t1 t2 tb : Tok) (u1 u2 : Option Value) (em : m = ov [(Str.ofString "best", some (.int best tb)), (Str.ofString "rank", some (.ref p)), (Str.ofString "x", u1), (Str.ofString "own", u2)] m0) (hst : (best, rank) = (row.take i).foldl (nextStep doms o deg) (-1, (0, 0))) (en : news = [(p, tupObj [.int rank.1 t1, .int rank.2 t2])]) : NextJ doms o deg row m0 i m news
set_option pp.deepTerms false
set_option pp.deepTerms.threshold 3
theorem next_spec (C : Core w mean mg mb B) (hB : Stays B s.heap) (hA : Calm A 5) (hD : DeskR s.heap a vs D dl hs ts vf vt vm vn vsp vi vc n) (hR : BrR w s.heap b Db hs' ts' sa vals o to tc dg f n') (ho : o < 5)
  (hv : VarsAt s.heap vs doms) (hdeg : DegsAt f deg doms.length) (hrow : RowIs vals row) (hin : ∀ x ∈ row, x < doms.length) (hmany : doms.length ≤ 1000)
  (hret : ∀ h' tk' t, Stays s.heap h' → Q (.int (nextOf doms o deg row) t) {s with heap := h', toks := tk'}) :
  wpAny (model PR w) A (call (.ref 49) [.ref b, .ref a]) Q E s := by
  have hbi := hR.inst
  have hbd := hR.dict
  have hbr := hR.row
  have hi := hD.inst
  have hdd := hD.dict
  k_extra "m enter0"
  k_steps
  rename Fr _ _ _ _ => F3
  rename News _ _ _ _ => N3
  refine with_map F3 fun m0 em0 F4 => ?_
  have N4 := news_tail N3
  refine' ⟨sa, vals, NextJ doms o deg row m0,
    _, _, rfl, hbr, F3, N4, ⟨_, (0, 0), _, _, _, _, m0 (Str.ofString "x"), m0 (Str.ofString "own"), (by subst em0; exact ov_eq _ (by k_extra "m in") (by k_extra "m out")), rfl, rfl⟩, ?_, ?_⟩
  · rintro i v h tk m I oI news E' hvi ⟨best, rank, p, t1, t2, tb, u1, u2, rfl, hst, rfl⟩ F5 N5 hne5
    subst em0
    clear F3 F4 N3
    obtain ⟨x, tx, hx, rfl⟩ := hrow.get hvi
    have hxm := hin x (List.mem_of_getElem? hx)
    obtain ⟨tdx, hfx⟩ := hdeg x hxm
    have hdx : doms[x]? = some (doms.getD x []) := by rw [List.getD_eq_getElem?_getD, List.getElem?_eq_getElem hxm]; rfl
    obtain ⟨d, items, hvx, hid, hip, hine, hiz⟩ := hv.2 x _ hdx
    have hxf : x < 2 ^ 62 := by omega
    have hI5 := (N5 (I, oI) (.head _)).1
    have hnext := foldl_take_succ (nextStep doms o deg) (-1, (0, 0)) row i x hx
    rw [← hst] at hnext
    k_steps
    · have hs2 : (best, rank) = (row.take (i + 1)).foldl (nextStep doms o deg) (-1, (0, 0)) := by
        rw [hnext, nextStep, if_pos (by assumption)]
      exact ⟨_, _, _, _, [(p, tupObj [.int rank.1 t1, .int rank.2 t2])], rfl, by assumption, by assumption, by k_extra "m sub", by k_extra "m sub", sep1 (fun r hr => by cases List.mem_singleton.mp hr; exact hne5 _ (.head _)),
        ⟨best, rank, p, t1, t2, tb, _, u2, (by exact ov_eq _ (by k_extra "m in") (by k_extra "m out")), hs2, rfl⟩⟩
    · rename_i pc t1c t2c kc fc oc h4 tk1 ha tk0 h3 h2 h1 h0 F N
      have hs2 : ((x : Int), rankOf o (doms.getD x []) (deg x)) = (row.take (i + 1)).foldl (nextStep doms o deg) (-1, (0, 0)) := by
        rw [hnext, nextStep, if_neg (by simp_all), if_pos (Or.inl ha)]
      have hne' : @Ne Nat pc I := fun q => by
        have e := Stays.get (by assumption) hI5
        rw [← q] at e
        have e2 := fc.symm.trans e
        cases e2
      exact ⟨_, _, _, _, [(pc, tupObj [.int (rankOf o (doms.getD x []) (deg x)).1 t1c, .int (rankOf o (doms.getD x []) (deg x)).2 t2c])], rfl, F, N, by k_extra "m sub", by k_extra "m sub", sep1 (fun r hr => by cases List.mem_singleton.mp hr; exact hne'),
        ⟨_, _, pc, t1c, t2c, _, _, _, (by exact ov_eq _ (by k_extra "m in") (by k_extra "m out")), hs2, rfl⟩⟩
    · rename_i pc t1c t2c kc fc oc h4 tk1 ha ha2 tk0 h3 h2 h1 h0 F N
      have hs2 : ((x : Int), rankOf o (doms.getD x []) (deg x)) = (row.take (i + 1)).foldl (nextStep doms o deg) (-1, (0, 0)) := by
        rw [hnext, nextStep, if_neg (by simp_all), if_pos (.inr ha2)]
      have hne' : @Ne Nat pc I := fun q => by
        have e := Stays.get (by assumption) hI5
        rw [← q] at e
        have e2 := fc.symm.trans e
        cases e2
      exact ⟨_, _, _, _, [(pc, tupObj [.int (rankOf o (doms.getD x []) (deg x)).1 t1c, .int (rankOf o (doms.getD x []) (deg x)).2 t2c])], rfl, F, N, by k_extra "m sub", by k_extra "m sub", sep1 (fun r hr => by cases List.mem_singleton.mp hr; exact hne'),
        ⟨_, _, pc, t1c, t2c, _, _, _, (by exact ov_eq _ (by k_extra "m in") (by k_extra "m out")), hs2, rfl⟩⟩
    · have hs2 : (best, rank) = (row.take (i + 1)).foldl (nextStep doms o deg) (-1, (0, 0)) := by
        rw [hnext, nextStep, if_neg (by simp_all), if_neg (by simp_all)]
      exact ⟨_, _, _, _, [(p, tupObj [.int rank.1 t1, .int rank.2 t2])], rfl, by assumption, by assumption, by k_extra "m sub", by k_extra "m sub", sep1 (fun r hr => by cases List.mem_singleton.mp hr; exact hne5 _ (.head _)),
        ⟨best, rank, p, t1, t2, tb, _, _, (by exact ov_eq _ (by k_extra "m in") (by k_extra "m out")), hs2, rfl⟩⟩
  · rintro h tk m news ⟨best, rank, p, t1, t2, tb, u1, u2, rfl, hst, rfl⟩ F5 N5
    subst em0
    clear F3 F4 N3
    have hl : vals.length = row.length := by rw [IntsAre.length hrow, List.length_map]
    rw [hl, List.take_length] at hst
    have hb : nextOf doms o deg row = best := by rw [nextOf, ← hst]
    rw [hb] at hret
    k_steps
    exact hret _ _ _ (Fr.keep (by assumption))
theorem next_spec' (C : Core w mean mg mb B) (hB : Stays B s.heap) (hA : Calm A 5) (hD : DeskR s.heap a vs D dl hs ts vf vt vm vn vsp vi vc n) (hR : BrR w s.heap b Db hs' ts' sa vals o to tc dg f n') (ho : o < 5)
  (hv : VarsAt s.heap vs doms) (hdeg : DegsAt f deg doms.length) (hrow : RowIs vals row) (hin : ∀ x ∈ row, x < doms.length) (hmany : doms.length ≤ 1000) {z : Int} (hz : nextOf doms o deg row = z)
  (hret : ∀ h' tk' t, Stays s.heap h' → Q (.int z t) {s with heap := h', toks := tk'}) :
  wpAny (model PR w) A (call (.ref 49) [.ref b, .ref a]) Q E s := next_spec C hB hA hD hR ho hv hdeg hrow hin hmany (by rw [hz]; exact hret)
end

end
theorem rows52 : True := by
  k_with_none
  k_with "m mem" => first | exact mem0 | exact mem1 | exact mem2 | exact mem3 | (refine' mem4 ?_; k_extra "m mem")
  k_with "k ne" => (refine neN ?_; (try dsimp only); k_extra "m ne0")
  k_with "m lt0" => first | with_reducible assumption | (refine lt_from (by with_reducible assumption) ?_; intro hh; first | exact hh.1 | exact hh.2 | exact hh.2.1 | exact hh.2.2 | exact hh.2.2.1 | exact hh.2.2.2 | exact hh.2.2.2.1 | exact hh.2.2.2.2 | exact hh.2.2.2.2.1 | exact hh.2.2.2.2.2 | exact hh.2.2.2.2.2.1 | exact hh.2.2.2.2.2.2 | exact hh.2.2.2.2.2.2.1 | exact hh.2.2.2.2.2.2.2 | exact hh.2.2.2.2.2.2.2.1 | exact hh.2.2.2.2.2.2.2.2 | exact hh.2.2.2.2.2.2.2.2.1 | exact hh.2.2.2.2.2.2.2.2.2 | exact hh.2.2.2.2.2.2.2.2.2.1 | exact hh.2.2.2.2.2.2.2.2.2.2 | exact hh.2.2.2.2.2.2.2.2.2.2.1 | exact hh.2.2.2.2.2.2.2.2.2.2.2 | exact hh.2.2.2.2.2.2.2.2.2.2.2.1 | exact hh.2.2.2.2.2.2.2.2.2.2.2.2 | exact hh.2.2.2.2.2.2.2.2.2.2.2.2.1 | exact hh.2.2.2.2.2.2.2.2.2.2.2.2.2 | exact hh.2.2.2.2.2.2.2.2.2.2.2.2.2.1 | exact hh.2.2.2.2.2.2.2.2.2.2.2.2.2.2 | exact hh.2.2.2.2.2.2.2.2.2.2.2.2.2.2.1 | exact hh.2.2.2.2.2.2.2.2.2.2.2.2.2.2.2 | exact hh.2.2.2.2.2.2.2.2.2.2.2.2.2.2.2.1 | exact hh.2.2.2.2.2.2.2.2.2.2.2.2.2.2.2.2 | exact hh.2.2.2.2.2.2.2.2.2.2.2.2.2.2.2.2.1 | exact hh.2.2.2.2.2.2.2.2.2.2.2.2.2.2.2.2.2 | exact hh.2.2.2.2.2.2.2.2.2.2.2.2.2.2.2.2.2.1 | exact hh.2.2.2.2.2.2.2.2.2.2.2.2.2.2.2.2.2.2 | exact hh.2.2.2.2.2.2.2.2.2.2.2.2.2.2.2.2.2.2.1 | exact hh.2.2.2.2.2.2.2.2.2.2.2.2.2.2.2.2.2.2.2 | exact hh.2.2.2.2.2.2.2.2.2.2.2.2.2.2.2.2.2.2.2.1 | exact hh.2.2.2.2.2.2.2.2.2.2.2.2.2.2.2.2.2.2.2.2 | exact hh.2.2.2.2.2.2.2.2.2.2.2.2.2.2.2.2.2.2.2.2.1 | exact hh.2.2.2.2.2.2.2.2.2.2.2.2.2.2.2.2.2.2.2.2.2 | exact hh.2.2.2.2.2.2.2.2.2.2.2.2.2.2.2.2.2.2.2.2.2.1 | exact hh.2.2.2.2.2.2.2.2.2.2.2.2.2.2.2.2.2.2.2.2.2.2)
  k_with "m lt" => first | k_extra "m lt0" | omega
  k_with "m ne0" => first | with_reducible assumption | exact Ne.symm (by with_reducible assumption) | exact Nat.ne_of_lt (by k_extra "m lt0") | exact Nat.ne_of_gt (by k_extra "m lt0")
  k_with "m fill" => (have hfill : Challenge.rw_pq0372_01 = Challenge.rw_pq0372_01 ∧ KF = KF := (by k_fill; exact ⟨rfl, rfl⟩); clear hfill)
  k_with "m around" => ((rename Around => mA'); (rcases mA' with ⟨_, _, _, _, _⟩); (have mE' := Calm.hh (by with_reducible assumption)); (dsimp only at mE'); subst mE')
  k_with "m enter0" => (k_extra "m around"; k_extra "m fill"; refine wpAny_call ?_; k_dflt (refine' enter0 (by assumption) (by assumption) (by assumption) (by k_is) (by k_is) (by exact BindsTo.of_eq rfl) (by exact locs rfl) ?_ (by exact rfl) (by exact rfl) (by exact rfl) (by decide); k_whole; intro _ _ _ _ _ _ _ _ _; (try dsimp only); (try k_fold)))
  k_with "m enterC0" => (k_extra "m around"; k_extra "m fill"; refine wpAny_call ?_; k_dflt (refine' enterC0 (by assumption) (by assumption) (by assumption) (by k_is) (by k_is) (by exact BindsTo.of_eq rfl) (by rfl) (by decide) ?_ (by exact rfl) (by exact rfl) (by exact rfl); k_whole; intro _ _ _ _ _ _ _ _ _ _ _; (try dsimp only); (try k_fold)))
  k_with "m cell1" => ((rename CellsAre _ _ _ => mY'); (with_unfolding_all have mY2' := CellsAre.one mY'); (obtain ⟨_, me', _⟩ := mY2'); (subst me'); clear mY')
  k_with "m cell2" => ((rename CellsAre _ _ _ => mY'); (with_unfolding_all have mY2' := CellsAre.two mY'); (obtain ⟨_, _, me', _, _⟩ := mY2'); (subst me'); clear mY')
  k_with "m tup" => first | assumption | exact fr_tup (by with_reducible assumption) (by with_reducible assumption) | exact News.isTup (by with_reducible assumption) (by news_mem)
  k_with "m list" => first | assumption | exact fr_list (by with_reducible assumption) (by with_reducible assumption) | exact News.isList (by with_reducible assumption) (by news_mem)
  k_with "call builtin:len" => (k_here; (with_reducible show wpAny _ _ (call (Value.builtin "len") [Value.ref _]) _ _ _); k_dflt first | (refine' len_tup (by k_extra "m tup") (by first | assumption | (with_reducible decide) | omega | (simp only [List.length_append, List.length_cons, List.length_nil]; first | decide | omega)) ?_; k_whole; intro _ _) | (refine' len_lst (by k_extra "m list") (by first | assumption | (with_reducible decide) | omega | (simp only [List.length_append, List.length_cons, List.length_nil]; first | decide | omega)) ?_; k_whole; intro _ _))
  k_with "subscriptTail" => (k_here; (with_reducible show wpAny _ _ (subscriptTail _ _ (Value.ref _) (Value.int (-1) _)) _ _ _); (with_unfolding_all refine' tup_last (by k_extra "m tup") (by first | assumption | rfl) ?_ (by with_unfolding_all rfl); k_whole))
  k_with "subscriptTail" => (k_here; (with_reducible show wpAny _ _ (subscriptTail _ _ (Value.ref _) (Value.int _ _)) _ _ _); (with_unfolding_all apply tup_at); (case ht => k_extra "m tup"); (first | ((case hk => with_unfolding_all rfl); (case hx => first | assumption | rfl)) | ((case hx => assumption); (case hk => omega))); (case hf => first | decide | omega); (case hs => with_unfolding_all rfl); k_whole)
  k_with "subscriptTail" => (k_here; (with_reducible show wpAny _ _ (subscriptTail _ _ (Value.ref _) (Value.int _ _)) _ _ _); (with_unfolding_all apply list_at); (case ht => k_extra "m list"); (first | ((case hk => with_unfolding_all rfl); (case hx => first | assumption | rfl)) | ((case hx => assumption); (case hk => omega))); (case hf => first | decide | omega); (case hs => with_unfolding_all rfl); k_whole)
  k_with "k inst" => exact instAt_base (by assumption) (by assumption) (by assumption)
  k_with "m stays" => first | with_reducible assumption | exact stays_fr (by with_reducible assumption) (by with_reducible assumption)
  k_with "m calm" => exact Calm.le (by assumption) (by decide)
  k_with "m kept" => ((rename Fr _ _ _ _ => kF'); (rename News _ _ _ _ => kN'); (refine kept_of (by with_reducible assumption) kF' kN' ?_); clear kF' kN'; intro _ _; (try dsimp only); (try k_fold))
  k_with "eval Name" => ((with_reducible show wpAny _ _ (eval (Expr.Name _ _) (compEnvC _ _ _ _)) _ _ _); k_dflt first | (apply comp_local; (case F => with_reducible assumption); (case hk => rfl); (case hl => with_unfolding_all rfl); (case hd => decide); (case hm => first | with_reducible assumption | with_unfolding_all rfl); k_whole) | (apply comp_cell; (case F => with_reducible assumption); (case hk => rfl); (case hl => with_unfolding_all rfl); (case hd => decide); (case hc => with_unfolding_all rfl); (case ho => assumption); (case hv => with_reducible assumption); k_whole) | (apply comp_builtin; (case F => with_reducible assumption); (case T => with_reducible assumption); (case k => with_reducible assumption); (case hg => rfl); (case hb => rfl); (case hk => rfl); (case hx => with_unfolding_all rfl); (case hd => decide); (case h2 => first | exact mb_max (by with_reducible assumption) | exact mb_min (by with_reducible assumption)); (case h1 => first | exact mg_max (by with_reducible assumption) | exact mg_min (by with_reducible assumption)); k_whole))
  k_with "call builtin:max" => ((with_reducible show wpAny _ _ (call (Value.builtin _) [Value.int _ _, Value.int _ _]) _ _ _); k_dflt (refine' comp_max (by with_reducible assumption) (by first | exact Calm.hh (by assumption) | with_unfolding_all rfl) ?_; k_whole; intro _ _ _ _ _))
  k_with "call builtin:min" => ((with_reducible show wpAny _ _ (call (Value.builtin _) [Value.int _ _, Value.int _ _]) _ _ _); k_dflt (refine' comp_min (by with_reducible assumption) (by first | exact Calm.hh (by assumption) | with_unfolding_all rfl) ?_; k_whole; intro _ _ _ _ _))
  k_with "newTuple" => (k_dflt (refine' comp_tuple (by with_reducible assumption) ?_ (by rfl); k_whole; intro _ _ _ _))
  k_with "call type:tuple" => ((with_reducible show wpAny _ _ (call (Value.type _) [Value.ref _]) _ _ _); k_dflt (refine' tuple_of (by with_reducible assumption) (by with_reducible assumption) (by k_extra "m list") (by first | assumption | omega) ?_; k_whole; intro _ _ _ _ _ _))
  k_with "call ref" => (k_here; (with_reducible show wpAny _ _ (call (Value.ref 77) _) _ _ _); k_dflt (refine' least_spec (by assumption) (by k_extra "m stays") (by k_extra "m calm") (by k_extra "m tup") (by assumption) (by k_extra "m tup") ?_; intro _ _ _ _; k_extra "m kept"))
  k_with "call ref" => (k_here; (with_reducible show wpAny _ _ (call (Value.ref 84) _) _ _ _); k_dflt (refine' greatest_spec (by assumption) (by k_extra "m stays") (by k_extra "m calm") (by k_extra "m tup") (by assumption) (by k_extra "m tup") ?_; intro _ _ _ _; k_extra "m kept"))
  k_with "call ref" => (k_here; (with_reducible show wpAny _ _ (call (Value.ref 183) _) _ _ _); k_dflt (refine' dom_spec (by assumption) (by k_extra "m stays") (by k_extra "m calm") (by k_extra "m desk") (by assumption) (by assumption) ?_; intro _ _ _; k_extra "m kept"))
  k_with "call ref" => (k_here; (with_reducible show wpAny _ _ (call (Value.ref 197) _) _ _ _); k_dflt (refine' low_spec (by assumption) (by k_extra "m stays") (by k_extra "m calm") (by k_extra "m desk") (by assumption) (by assumption) (by k_extra "m tup") (by assumption) (by k_extra "m tup") ?_; intro _ _ _ _; k_extra "m kept"))
  k_with "call ref" => (k_here; (with_reducible show wpAny _ _ (call (Value.ref 204) _) _ _ _); k_dflt (refine' high_spec (by assumption) (by k_extra "m stays") (by k_extra "m calm") (by k_extra "m desk") (by assumption) (by assumption) (by k_extra "m tup") (by assumption) (by k_extra "m tup") ?_; intro _ _ _ _; k_extra "m kept"))
  k_with "call ref" => (k_here; (with_reducible show wpAny _ _ (call (Value.ref 89) _) _ _ _); k_dflt (refine' size_spec (by assumption) (by k_extra "m stays") (by k_extra "m calm") (by k_extra "m tup") (by first | assumption | exact Prs.mono (Fr.keep (by with_reducible assumption)) (by with_reducible assumption)) (by assumption) ?_; intro _ _ _ _; k_extra "m kept"))
  k_with "m prs" => first | with_reducible assumption | exact Prs.mono (Fr.keep (by with_reducible assumption)) (by with_reducible assumption)
  k_with "call ref" => (k_here; (with_reducible show wpAny _ _ (call (Value.ref 108) _) _ _ _); k_dflt (refine' upTo_spec (by assumption) (by k_extra "m stays") (by k_extra "m calm") (by k_extra "m tup") (by k_extra "m prs") (by assumption) ?_; intro _ _ _ kc dc; (obtain ⟨ac, vc, ec, tc, pc⟩ := dc); subst ec; revert kc ac vc tc pc; intro _ _ _ _ _; k_extra "m kept"))
  k_with "call ref" => (k_here; (with_reducible show wpAny _ _ (call (Value.ref 113) _) _ _ _); k_dflt (refine' fromOn_spec (by assumption) (by k_extra "m stays") (by k_extra "m calm") (by k_extra "m tup") (by k_extra "m prs") (by assumption) ?_; intro _ _ _ kc dc; (obtain ⟨ac, vc, ec, tc, pc⟩ := dc); subst ec; revert kc ac vc tc pc; intro _ _ _ _ _; k_extra "m kept"))
  k_with "call ref" => (k_here; (with_reducible show wpAny _ _ (call (Value.ref 120) _) _ _ _); k_dflt (refine' without_spec (by assumption) (by k_extra "m stays") (by k_extra "m calm") (by k_extra "m tup") (by k_extra "m prs") (by assumption) ?_; intro _ _ _ kc dc; (obtain ⟨ac, vc, ec, tc, pc⟩ := dc); subst ec; revert kc ac vc tc pc; intro _ _ _ _ _; k_extra "m kept"))
  k_with "call ref" => (k_here; (with_reducible show wpAny _ _ (call (Value.ref 141) _) _ _ _); k_dflt (refine' struck_spec (by assumption) (by k_extra "m stays") (by k_extra "m calm") (by assumption) (by first | assumption | exact LitAt.mono (Fr.keep (by with_reducible assumption)) (by with_reducible assumption)) (by k_extra "m tup") (by k_extra "m prs") (by assumption) ?_; intro _ _ _ kc dc; (obtain ⟨ac, vc, ec, tc, pc⟩ := dc); subst ec; revert kc ac vc tc pc; intro _ _ _ _ _; k_extra "m kept"))
  k_with "m desk" => first | assumption | exact DeskR.mono (Fr.keep (by with_reducible assumption)) (by assumption) | exact DeskR.mono (by with_reducible assumption) (by assumption)
  k_with "call ref" => (k_here; (with_reducible show wpAny _ _ (call (Value.ref 232) _) _ _ _); k_dflt (refine' width_spec (by assumption) (by k_extra "m stays") (by k_extra "m calm") (by k_extra "m desk") (by assumption) (by assumption) (by k_extra "m tup") (by k_extra "m prs") (by assumption) ?_; intro _ _ _ _; k_extra "m kept"))
  k_with "call ref" => (k_here; (with_reducible show wpAny _ _ (call (Value.ref 218) _) _ _ _); k_dflt (refine' is_fixed_spec (by assumption) (by k_extra "m stays") (by k_extra "m calm") (by k_extra "m desk") (by assumption) (by assumption) (by k_extra "m tup") (by k_extra "m prs") (by assumption) (by assumption) ?_; intro _ _ _; k_extra "m kept"))
  k_with "m in" => (repeat' (first | exact List.forall_mem_nil _ | (refine in_cons ?_ ?_; (with_unfolding_all rfl))))
  k_with "m out" => (intro my' mhy'; (repeat' first | (with_reducible exact rfl) | refine out_mem mhy' (by with_reducible k_extra "m mem") ?_ | refine out_rmem mhy' (by with_reducible k_extra "m mem") ?_ | refine out_same mhy' ?_ _ (by rfl) | refine out_ov mhy' ?_ _ (by kernel_rfl)))
  k_with "m sub" => (intro mp' mhp'; (simp only [List.mem_cons, List.not_mem_nil, or_false, List.mem_append] at mhp' ⊢); (first | exact mhp' | (rcases mhp' with mhp' | mhp' <;> simp [mhp']) | simp [mhp']))
  k_with "m for range" => (k_here; k_dflt (refine' for_rangeF (by with_reducible assumption) (by with_unfolding_all rfl) ?_ (by rfl) (by with_unfolding_all rfl) (by rfl) (by (intro _; rfl)); k_whole))
  k_with "m for tup" => (k_here; k_dflt (refine' for_tupF (by with_reducible assumption) (by with_unfolding_all rfl) ?_ (by rfl) (by with_unfolding_all rfl) (by rfl) (by (intro _; rfl)); k_whole))
  k_with "m for pairs" => (k_here; k_dflt (refine' for_pairsF (by with_reducible assumption) (by with_unfolding_all rfl) ?_ (by rfl) (by with_unfolding_all rfl) (by with_unfolding_all rfl) (by rfl) (by (intro _; rfl)); k_whole))
  k_with "call ref" => (k_here; (with_reducible show wpAny _ _ (call (Value.ref 56) _) _ _ _); k_dflt (refine' median_spec (by assumption) (by k_extra "m stays") (by k_extra "m calm") (by k_extra "m desk") (by assumption) (by assumption) (by k_extra "m tup") (by k_extra "m prs") (by assumption) (by assumption) ?_; intro _ _ _ _; k_extra "m kept"))
  k_with "m map" => first | assumption | exact fr_map (by with_reducible assumption) (by with_reducible assumption)
  k_with "m br" => first | assumption | exact BrR.mono (Fr.keep (by with_reducible assumption)) (by assumption) | exact BrR.mono (by with_reducible assumption) (by assumption)
  k_with "call ref" => (k_here; (with_reducible show wpAny _ _ (call (Value.ref 42) _) _ _ _); k_dflt (refine' rank_spec (by assumption) (by k_extra "m stays") (by k_extra "m calm") (by k_extra "m desk") (by k_extra "m br") (by assumption) (by assumption) (by assumption) (by assumption) (by k_extra "m tup") (by k_extra "m prs") (by assumption) (by assumption) ?_; intro _ _ _ _ _ kc fc oc; (rename Fr _ _ _ _ => kF'); (rename News _ _ _ _ => kN'); (have F' := Fr.keeps kF' kc); (have N' := news_fresh kF' kN' kc fc oc); clear kF' kN'; revert kc fc oc F' N'; intro _ _ _ _ _; (try dsimp only); (try k_fold)))
  k_with "m vars" => first | assumption | exact VarsAt.mono (Fr.keep (by with_reducible assumption)) (by assumption) | exact VarsAt.mono (by with_reducible assumption) (by assumption)
  k_with "call ref" => (k_here; (with_reducible show wpAny _ _ (call (Value.ref 49) _) _ _ _); k_dflt (refine' next_spec' (by assumption) (by k_extra "m stays") (by k_extra "m calm") (by k_extra "m desk") (by k_extra "m br") (by assumption) (by k_extra "m vars") (by assumption) (by assumption) (by assumption) (by assumption) (by assumption) ?_; intro _ _ _ _; k_extra "m kept"))
  trivial
section
theorem off54 : True := by
  w_top off
  trivial
theorem nextOf_cases (doms : List Rng) (o : Nat) (deg : Nat → Int) (row : List Nat) : nextOf doms o deg row = -1 ∨ ∃ x ∈ row, nextOf doms o deg row = (x : Int) := by
  have h : ∀ (l : List Nat) (st : Int × (Int × Int)), (st.1 = -1 ∨ ∃ x ∈ row, st.1 = (x : Int)) → (∀ x ∈ l, x ∈ row) →
      ((l.foldl (nextStep doms o deg) st).1 = -1 ∨ ∃ x ∈ row, (l.foldl (nextStep doms o deg) st).1 = (x : Int)) := by
    intro l
    induction l with
    | nil => intro st h _; exact h
    | cons y l ih =>
      intro st h hl
      refine ih _ ?_ fun x hx => hl x (.tail _ hx)
      rw [nextStep]
      split
      · exact h
      · split
        · exact .inr ⟨y, hl y (.head _), rfl⟩
        · exact h
  exact h row (-1, (0, 0)) (.inl rfl) fun _ h => h
noncomputable def ChooseIs (h : Heap) (v : Value) (doms : List Rng) (z : Int) : Prop :=
  (z = -1 ∧ v = .none) ∨ ∃ (x : Nat) (p : Addr) (t1 t2 t3 : Tok), z = (x : Int) ∧ x < doms.length ∧ v = .ref p ∧ h.get? p = some (tupObj [.int x t1, .str (Str.ofString "=") t2, .int (medianOf (doms.getD x [])) t3])
section
variable {w : World} {mean : ExcName → Option Value} {mg mb : PySem.Str → Option Value} {B : Heap} {A : Around} {s : Shared} {Q E : Value → Shared → Prop}
  {a : Addr} {vs : List Value} {D dl : Addr} {hs : Nat → Int} {ts : Nat → Tok} {vf vt vm vn vsp vi vc : Value} {n : Nat}
  {b Db : Addr} {hs' : Nat → Int} {ts' : Nat → Tok} {sa : Addr} {vals : List Value} {o : Nat} {to tc : Tok} {dg : Addr} {f : Int → Option Value} {n' : Nat}
  {doms : List Rng} {row : List Nat} {deg : Nat → Int}
set_option pp.deepTerms false
set_option pp.deepTerms.threshold 3
theorem choose_spec (C : Core w mean mg mb B) (hB : Stays B s.heap) (hA : Calm A 6) (hD : DeskR s.heap a vs D dl hs ts vf vt vm vn vsp vi vc n) (hR : BrR w s.heap b Db hs' ts' sa vals o to tc dg f n') (ho : o < 5)
  (hv : VarsAt s.heap vs doms) (hdeg : DegsAt f deg doms.length) (hrow : RowIs vals row) (hin : ∀ x ∈ row, x < doms.length) (hmany : doms.length ≤ 1000)
  (hret : ∀ h' tk' v, Stays s.heap h' → ChooseIs h' v doms (nextOf doms o deg row) → Q v {s with heap := h', toks := tk'}) :
  wpAny (model PR w) A (call (.ref 63) [.ref b, .ref a]) Q E s := by
  have hbi := hR.inst
  have hbd := hR.dict
  have hi := hD.inst
  have hdd := hD.dict
  rcases nextOf_cases doms o deg row with hz | ⟨x, hxr, hz⟩
  · rw [hz] at hret
    k_extra "m enter0"
    k_steps
    · exact hret _ _ _ (Fr.keep (by assumption)) (.inl ⟨rfl, rfl⟩)
  · rw [hz] at hret
    have hxm := hin x hxr
    have hdx : doms[x]? = some (doms.getD x []) := by rw [List.getD_eq_getElem?_getD, List.getElem?_eq_getElem hxm]; rfl
    obtain ⟨d, items, hvx, hid, hip, hine, hiz⟩ := hv.2 x _ hdx
    have hxf : x < 2 ^ 62 := by omega
    k_extra "m enter0"
    k_steps
    exact hret _ _ _ (Fr.keep (by assumption)) (.inr ⟨x, _, _, _, _, rfl, hxm, rfl, News.get (by assumption) (.head _)⟩)
end

end
theorem rows54 : True := by
  k_with "call ref" => (k_here; (with_reducible show wpAny _ _ (call (Value.ref 63) _) _ _ _); k_dflt (refine' choose_spec (by assumption) (by k_extra "m stays") (by k_extra "m calm") (by k_extra "m desk") (by k_extra "m br") (by assumption) (by k_extra "m vars") (by assumption) (by assumption) (by assumption) (by assumption) ?_; intro _ _ _ _ _; k_extra "m kept"))
  trivial
section
theorem off56 : True := by
  w_top off
  trivial
/-! ## equality of domains, and with the empty list -/
theorem prs_nil {h : Heap} : Prs h [] [] := True.intro
noncomputable def pairD (r : Int × Int) : PyData := .tuple [.int r.1, .int r.2]
theorem reads_prs {h : Heap} : ∀ {vs : List Value} {rs : Rng}, Prs h vs rs → ∃ as, ReadsAll h vs (rs.map pairD) as
  | [], [], _ => ⟨_, .nil⟩
  | _ :: _, r :: rs, x => by
    obtain ⟨⟨p, t1, t2, rfl, o, ho, hc, n, hd⟩, x2⟩ := x
    obtain ⟨as, ih⟩ := reads_prs x2
    exact ⟨_, .cons (.tuple ho hc hd (.cons (.int _ _) (.cons (.int _ _) .nil))) ih⟩
theorem reads_dom {h : Heap} {d : Addr} {vs : List Value} {rs : Rng} (hd : IsTup h d vs.toArray) (hp : Prs h vs rs) : ∃ as, Reads h (.ref d) (.tuple (rs.map pairD)) as := by
  obtain ⟨o, ho, hc, n, hdt⟩ := hd
  obtain ⟨as, h⟩ := reads_prs hp
  exact ⟨_, .tuple ho hc hdt h⟩
theorem eqv_prs : ∀ rs qs : Rng, PyData.eqvAll (rs.map pairD) (qs.map pairD) = decide (rs = qs)
  | [], [] => by simp [PyData.eqvAll]
  | [], _ :: _ => by simp [PyData.eqvAll]
  | _ :: _, [] => by simp [PyData.eqvAll]
  | (a, b) :: rs, (c, d) :: qs => by
    simp only [List.map_cons, PyData.eqvAll, eqv_prs rs qs, pairD, PyData.eqv, Bool.and_true]
    by_cases h1 : a = c <;> by_cases h2 : b = d <;> by_cases h3 : rs = qs <;> simp [h1, h2, h3]
theorem lay_prs : ∀ rs : Rng, PyData.canLayAll0 (rs.map pairD) = true
  | [] => by simp [PyData.canLayAll0]
  | r :: rs => by simp [PyData.canLayAll0, pairD, PyData.canLay0, lay_prs rs]
theorem depth_prs : ∀ rs : Rng, PyData.depthAll (rs.map pairD) ≤ 3
  | [] => by simp [PyData.depthAll]
  | r :: rs => by
    have := depth_prs rs
    simp [PyData.depthAll, pairD, PyData.depth]
    omega
theorem shaped_prs (rs : Rng) : SeqAt.shaped (.tuple (rs.map pairD)) = true := by
  have h1 := lay_prs rs
  have h2 := depth_prs rs
  simp [SeqAt.shaped, PyData.canLay0, h1, PyData.depth]
  omega
theorem eqv_dom (rs qs : Rng) : PyData.eqv (.tuple (rs.map pairD)) (.tuple (qs.map pairD)) = decide (rs = qs) := by rw [PyData.eqv, eqv_prs]
section
variable {prog : Program} {w : World} {A : Around} {E : Value → Shared → Prop} {s : Shared} {x y : Addr} {xs ys : List Value} {rs qs : Rng} {Q : Value → Shared → Prop}
theorem eq_doms (hx : IsTup s.heap x xs.toArray) (px : Prs s.heap xs rs) (hy : IsTup s.heap y ys.toArray) (py : Prs s.heap ys qs) (hu : A.units + 64 < cLine) (h : Q (.bool (decide (rs = qs))) s) :
    wpAny (model prog w) A (compareOp .Eq (.ref x) (.ref y)) Q E s := by
  obtain ⟨as, ra⟩ := reads_dom hx px
  obtain ⟨bs, rb⟩ := reads_dom hy py
  exact SeqAt.compareEq_shaped ra rb (shaped_prs rs) (shaped_prs qs) hu (by rw [eqv_dom]; exact h)
theorem ne_doms (hx : IsTup s.heap x xs.toArray) (px : Prs s.heap xs rs) (hy : IsTup s.heap y ys.toArray) (py : Prs s.heap ys qs) (hu : A.units + 64 < cLine) (h : Q (.bool (decide (rs ≠ qs))) s) :
    wpAny (model prog w) A (compareOp .NotEq (.ref x) (.ref y)) Q E s := by
  obtain ⟨as, ra⟩ := reads_dom hx px
  obtain ⟨bs, rb⟩ := reads_dom hy py
  refine SeqAt.compareNe_shaped ra rb (shaped_prs rs) (shaped_prs qs) hu ?_
  rw [eqv_dom, ← decide_not]; exact h
theorem ne_nil (hx : s.heap.IsList x xs.toArray) (hy : s.heap.IsList y #[]) (hu : A.units < cLine) (h : Q (.bool (decide (xs ≠ []))) s) :
    wpAny (model prog w) A (compareOp .NotEq (.ref x) (.ref y)) Q E s := by
  by_cases e : xs = []
  · subst e
    refine SeqAt.RcNeAt.lists (e := fun _ => false) hx hy rfl hu (fun j hj => nomatch hj) prog w E Q ?_
    simpa using h
  · refine SeqAt.RcNeAt.lists_lengths hx hy (by cases xs with | nil => exact absurd rfl e | cons _ _ => simp) hu prog w E Q ?_
    simpa [e] using h
end

end
theorem rows56 : True := by
  k_with "m unit" => first | exact Calm.u1 (by with_reducible assumption)
  k_with "m prs0" => first | exact Prs.mono (Fr.keep (by with_reducible assumption)) (by with_reducible assumption) | with_reducible assumption | exact prs_nil | k_extra "m prs"
  k_with "compareOp Eq ref ref" => (k_here; k_dflt (refine' eq_doms (by k_extra "m tup") (by k_extra "m prs0") (by k_extra "m tup") (by k_extra "m prs0") (by k_extra "m unit") ?_; k_whole))
  k_with "compareOp NotEq ref ref" => (k_here; k_dflt first | (apply ne_nil; (case hy => k_extra "m list"); (case hx => k_extra "m list"); (case hu => exact Calm.u (by with_reducible assumption)); k_whole) | (apply ne_doms; (case hx => k_extra "m tup"); (case px => k_extra "m prs0"); (case hy => k_extra "m tup"); (case py => k_extra "m prs0"); (case hu => k_extra "m unit"); k_whole))
  trivial
section
theorem off60 : True := by
  w_top off
  trivial
noncomputable abbrev lstObj (vs : List Value) (n : Nat) : Obj := { cls := .type "list", data := .seq vs.toArray n }
noncomputable def NotTup (h : Heap) (S : List Addr) : Prop := ∀ a ∈ S, ∃ o, h.get? a = some o ∧ o.cls ≠ .type "tuple"
theorem NotTup.nil {h : Heap} : NotTup h [] := fun _ q => nomatch q
theorem NotTup.cons {h : Heap} {a : Addr} {o : Obj} {S : List Addr} (e : h.get? a = some o) (c : o.cls ≠ .type "tuple") (r : NotTup h S) : NotTup h (a :: S) := fun b hb => by
  rcases List.mem_cons.mp hb with rfl | hb
  · exact ⟨o, e, c⟩
  · exact r b hb
theorem StaysBut.tup {h h' : Heap} {S : List Addr} (k : StaysBut S h h') (n : NotTup h S) : TupStays h h' := fun b o _ _ e c _ => k b o (fun q => by
  obtain ⟨o', e', c'⟩ := n b q
  rw [e] at e'; cases e'
  exact c' c) e
theorem IsTup.tup {h h' : Heap} {d : Addr} {vs : Array Value} (k : TupStays h h') (x : IsTup h d vs) : IsTup h' d vs := let ⟨o, ho, hc, n, hd⟩ := x; ⟨o, k _ _ _ _ ho hc hd, hc, n, hd⟩
section
variable {prog : Program} {w : World} {A : Around} {E : Value → Shared → Prop} {s : Shared} {h₀ : Heap} {L D : Addr} {m : PySem.Str → Option Value} {news news' : List (Addr × Obj)}
theorem append_L {vs : List Value} {n : Nat} {x : Value} {Q : Value → Shared → Prop} (F : Fr h₀ L s.heap m) (N : News h₀ L s.heap news) (U : Upd D (lstObj vs n) (lstObj (vs ++ [x]) (n + 1)) news news') (hz : vs.length ≤ 1000)
    (h : ∀ h', Fr h₀ L h' m → News h₀ L h' news' → Q .none { s with heap := h' }) : wpAny (model prog w) A (call (.builtin "list.append") [.ref D, x]) Q E s := by
  refine append_K (its := vs.toArray) (n := n) F N ?_ h (by rw [List.size_toArray]; exact le_sizeLine hz)
  rw [List.push_toArray]
  exact U
end

end
theorem rows60 : True := by
  k_with "call builtin:list.append" => (k_here; (with_reducible show wpAny _ _ (call (Value.builtin _) [Value.ref _, _]) _ _ _); k_dflt (refine' append_L (by k_asm) (by k_asm) (by k_upd) (by first | assumption | omega | (simp only [List.length_append, List.length_cons, List.length_nil]; omega)) ?_; k_whole); intro _ _ N'; (try dsimp only [List.nil_append, List.cons_append] at N'); revert N'; intro _; (try k_sweep))
  k_with "m enter" => (k_extra "m around"; k_extra "m fill"; refine wpAny_call ?_; k_dflt (refine' enter _ (by assumption) (by assumption) (by assumption) (by assumption) (by k_is) (by k_is) (by exact BindsTo.of_eq rfl) (by exact locs rfl) ?_ (by exact rfl) (by exact rfl) (by exact rfl) (by decide); k_whole; intro _ _ _ _ _ _ _ _ _ _ _ _ _ _; (try dsimp only); (try k_fold)))
  trivial
section
theorem off61 : True := by
  w_top off
  trivial
/-! ## lists and dicts of the ledger that change -/
theorem setL : ∀ {l : List Value} {k : Nat} (v : Value), k < l.length → ki_setL l k v = some (l.set k v)
  | [], k, v, h => absurd h (Nat.not_lt_zero _)
  | x :: l, 0, v, _ => rfl
  | x :: l, k + 1, v, h => by
    rw [ki_setL, setL v (Nat.lt_of_succ_lt_succ h)]; rfl
theorem lastL : ∀ (p : List Value) (y : Value), kl_last (p ++ [y]) = some (p, y)
  | [], y => rfl
  | x :: p, y => by
    show kl_last (x :: (p ++ [y])) = _
    rw [kl_last, lastL p y]
/-- a dict of int keys, of at most n entries -/
noncomputable def IntDictIs (o : Obj) (n : Nat) : Prop := o.cls = .type "dict" ∧ ∀ (h : Heap) (a : Addr), h.get? a = some o → (∃ f, h.IntMap a f) ∧ h.DictLe a n
theorem intDictIs_of {h : Heap} {a : Addr} {n : Nat} {f : Int → Option Value} (m : h.IntMap a f) (l : h.DictLe a n) : ∃ o, h.get? a = some o ∧ IntDictIs o n := by
  obtain ⟨o, es, ep, ho, hc, hd, hk, hf⟩ := m
  refine ⟨o, ho, hc, fun h' a' e => ⟨⟨f, o, es, ep, e, hc, hd, hk, hf⟩, fun o' es' ep' e' d' => ?_⟩⟩
  rw [e] at e'; cases e'
  exact l o es' ep' ho d'
theorem intDictIs_nil {prog : Program} {w : World} {o : Obj} (d : Obj.IsDictOf (intKind prog w) o []) : IntDictIs o 0 := by
  obtain ⟨es, ep, h1, h2, h3, h4, h5⟩ := id d
  refine ⟨h1.1, fun h a e => ⟨⟨_, (Heap.DictOf.mapOf (Heap.dictOf_iff.mpr ⟨o, e, d⟩)).intMap⟩, fun o' es' ep' e' d' => ?_⟩⟩
  rw [e] at e'; cases e'
  rw [h2] at d'; cases d'
  have := Pairs.length h4
  simpa using this
section
variable {prog : Program} {w : World} {A : Around} {E : Value → Shared → Prop} {s : Shared} {h₀ : Heap} {L D : Addr} {m : PySem.Str → Option Value} {news news' : List (Addr × Obj)}
theorem set_L {vs : List Value} {n x : Nat} {t : Tok} {v : Value} {Q : Unit → Shared → Prop} (F : Fr h₀ L s.heap m) (N : News h₀ L s.heap news) (hx : x < vs.length) (hz : vs.length ≤ 1000) (U : Upd D (lstObj vs n) (lstObj (vs.set x v) n) news news')
    (h : ∀ h', Fr h₀ L h' m → News h₀ L h' news' → Q () { s with heap := h' }) : wpAny (model prog w) A (setItem (.ref D) (.int (x : Int) t) v) Q E s :=
  ki_set (its := vs.toArray) (n := n) F N (Int.natCast_nonneg _) (by omega) (by rw [Int.toNat_natCast]; exact setL v hx) U h
theorem pop_L {vs : List Value} {n : Nat} {y : Value} {Q : Value → Shared → Prop} (F : Fr h₀ L s.heap m) (N : News h₀ L s.heap news) (hz : vs.length < 1000) (U : Upd D (lstObj (vs ++ [y]) n) (lstObj vs (n + 1)) news news')
    (h : ∀ h', Fr h₀ L h' m → News h₀ L h' news' → Q y { s with heap := h' }) : wpAny (model prog w) A (call (.builtin "list.pop") [.ref D]) Q E s :=
  kl_pop (its := (vs ++ [y]).toArray) (n := n) F N (lastL vs y) U (by simp only [List.length_append, List.length_cons, List.length_nil]; exact le_sizeLine hz) h
theorem setD_L {o : Obj} {n : Nat} {k : Int} {t : Tok} {v : Value} {gg : Obj → List (Addr × Obj)} {Q : Unit → Shared → Prop} (F : Fr h₀ L s.heap m) (N : News h₀ L s.heap news) (U : UpdF D o news gg) (ho : IntDictIs o n) (hn : n ≤ 1000)
    (h : ∀ h' o' tk, IntDictIs o' (n + 1) → Fr h₀ L h' m → News h₀ L h' (gg o') → Q () { s with heap := h', toks := tk }) : wpAny (model prog w) A (setItem (.ref D) (.int k t) v) Q E s := by
  obtain ⟨pre, post, rfl, hg, h1, h2⟩ := U.split
  have z := N (D, o) (List.mem_append.mpr (.inr (.head _)))
  obtain ⟨⟨f, hm⟩, hl⟩ := ho.2 _ _ z.1
  refine wpAny_setItem_intMap_le hm hl (le_sizeLine hn) fun h' hm' hl' hs => ?_
  obtain ⟨o', e', d'⟩ := intDictIs_of hm' hl'
  refine h h' o' _ d' (F.change hs z.2.1 z.2.2) ?_
  rw [hg]
  exact news_set N h1 h2 hs e'
end

end
theorem rows61 : True := by
  k_with "setItem ref int" => (k_here; k_dflt (apply set_L; (case F => k_asm); (case N => k_asm); (case U => k_upd); (case hx => assumption); (case hz => assumption); k_whole); intro _ _ N'; (try dsimp only [List.nil_append, List.cons_append] at N'); revert N'; intro _)
  k_with "setItem ref int" => (k_here; k_dflt (refine' setD_L (by k_asm) (by k_asm) (by k_updF) (by assumption) (by assumption) ?_; k_whole); intro _ _ _ _ _ N'; (try dsimp only [List.nil_append, List.cons_append] at N'); revert N'; intro _)
  k_with "call builtin:list.pop" => (k_here; (with_reducible show wpAny _ _ (call (Value.builtin _) [Value.ref _]) _ _ _); k_dflt (apply pop_L; (case F => k_asm); (case N => k_asm); (case U => k_upd); (case hz => assumption); k_whole); intro _ _ N'; (try dsimp only [List.nil_append, List.cons_append] at N'); revert N'; intro _)
  trivial
section
theorem off62 : True := by
  w_top off
  trivial
section
variable {w : World} {mean : ExcName → Option Value} {mg mb : PySem.Str → Option Value} {B : Heap} {A : Around} {s : Shared} {Q E : Value → Shared → Prop}
  {a : Addr} {D dl tl ml fl nd : Addr} {hs : Nat → Int} {ts : Nat → Tok} {vn vsp vi vc : Value} {n n1 n2 : Nat} {vs tr ms fs : List Value}
set_option pp.deepTerms false
set_option pp.deepTerms.threshold 3
theorem depth_spec (C : Core w mean mg mb B) (hB : Stays B s.heap) (hA : Calm A 1) (hi : s.heap.get? a = some (storeObj D)) (hdd : s.heap.get? D = some (dictOf (storeEs hs ts (.ref dl) (.ref fl) (.ref tl) (.ref ml) vn vsp vi vc) n))
  (hm : s.heap.IsList ml ms.toArray) (hms : ms.length ≤ 1000)
  (hret : ∀ h' tk' t, Stays s.heap h' → Q (.int (ms.length : Int) t) {s with heap := h', toks := tk'}) :
  wpAny (model PR w) A (call (.ref 288) [.ref a]) Q E s := by
  k_extra "m enter0"
  k_steps
  exact hret _ _ _ (Fr.keep (by assumption))
theorem isList_of {g h : Heap} {S : List Addr} (k : StaysBut S h g) {t : Addr} {vs : Array Value} (x : h.IsList t vs) (hn : t ∉ S) : g.IsList t vs := let ⟨o, ho, r⟩ := x; ⟨o, k t o hn ho, r⟩
theorem isTup_of {g h : Heap} {S : List Addr} (k : StaysBut S h g) {t : Addr} {vs : Array Value} (x : IsTup h t vs) (hn : t ∉ S) : IsTup g t vs := let ⟨o, ho, r⟩ := x; ⟨o, k t o hn ho, r⟩
theorem push_spec (C : Core w mean mg mb B) (hB : Stays B s.heap) (hA : Calm A 1) (hi : s.heap.get? a = some (storeObj D)) (hdd : s.heap.get? D = some (dictOf (storeEs hs ts (.ref dl) (.ref fl) (.ref tl) (.ref ml) vn vsp vi vc) n))
  (ht : s.heap.IsList tl tr.toArray) (hts : tr.length ≤ 1000) (hms : ms.length ≤ 1000) (hm : ∀ p ∈ [(ml, lstObj ms n1)], s.heap.get? p.1 = some p.2 ∧ B.get? p.1 = none) (hne : tl ≠ ml) (hneD : D ≠ ml) (hnea : a ≠ ml)
  (hret : ∀ h' tk' t, StaysBut [ml] s.heap h' → h'.get? ml = some (lstObj (ms ++ [.int (tr.length : Int) t]) (n1 + 1)) → Q .none {s with heap := h', toks := tk'}) :
  wpAny (model PR w) A (call (.ref 274) [.ref a]) Q E s := by
  k_extra "m enter"
  rename_i g0 L0 h0 tk0 hg0 hL0 F0 N0 X0 T0 hB0 kg0 hlt0 hA0
  have ht' := isList_of kg0 ht (by simpa using hne)
  have hi' := kg0 _ _ (by simpa using hnea) hi
  have hd' := kg0 _ _ (by simpa using hneD) hdd
  k_steps
  rename Fr _ _ _ _ => F3
  rename News _ _ _ _ => N3
  have e := News.get N3 (.head _)
  exact hret _ _ _ (fun b o hn e => F3.keep b o (kg0 b o hn e)) e
end

end
section
theorem off63 : True := by
  w_top off
  trivial
/-! ## what a call hands over, kept as a tail of the ledger -/
noncomputable def InPn (g : Heap) (pn : List (Addr × Obj)) (a : Addr) (vs : List Value) (rs : Rng) : Prop := ∀ h, Stays g h → (∀ p ∈ pn, h.get? p.1 = some p.2) → IsTup h a vs.toArray ∧ Prs h vs rs
noncomputable def TupO (o : Obj) : Prop := o.cls = .type "tuple" ∧ ∃ xs n, o.data = .seq xs n
/-- the objects of a domain -/
theorem dom_objs {h : Heap} : ∀ {vs : List Value} {rs : Rng}, Prs h vs rs → ∃ pn : List (Addr × Obj), (∀ p ∈ pn, h.get? p.1 = some p.2 ∧ TupO p.2) ∧ ∀ h', (∀ p ∈ pn, h'.get? p.1 = some p.2) → Prs h' vs rs
  | [], [], _ => ⟨[], (fun _ q => nomatch q), fun _ _ => trivial⟩
  | _ :: _, _ :: _, x => by
    obtain ⟨⟨p, t1, t2, rfl, o, ho, hc, n, hd⟩, x2⟩ := x
    obtain ⟨pn, h1, h2⟩ := dom_objs x2
    refine ⟨(p, o) :: pn, fun q hq => ?_, fun h' k => ⟨⟨p, t1, t2, rfl, o, k _ (.head _), hc, n, hd⟩, h2 h' fun q hq => k q (.tail _ hq)⟩⟩
    rcases List.mem_cons.mp hq with rfl | hq
    · exact ⟨ho, hc, _, _, hd⟩
    · exact h1 q hq
theorem absorb {g h : Heap} {L : Addr} {m : PySem.Str → Option Value} {news : List (Addr × Obj)} {r : Value} {rs : Rng} (F : Fr g L h m) (N : News g L h news) (d : DomAt h r rs) (S : List Addr) (hS : NotTup h S) :
    ∃ a vs pn, r = .ref a ∧ News g L h (news ++ pn) ∧ OwnOff pn S ∧ InPn g pn a vs rs ∧ ∀ p ∈ pn, TupO p.2 := by
  obtain ⟨a, vs, rfl, ⟨o, ho, hc, n, hd⟩, hp⟩ := d
  obtain ⟨pn, h1, h2⟩ := dom_objs hp
  have hall : ∀ p ∈ (a, o) :: pn, h.get? p.1 = some p.2 ∧ TupO p.2 := fun q hq => by
    rcases List.mem_cons.mp hq with rfl | hq
    · exact ⟨ho, hc, _, _, hd⟩
    · exact h1 q hq
  refine ⟨a, vs, ((a, o) :: pn).filter fun p => (g.get? p.1).isNone, rfl, fun q hq => ?_, fun q hq b hb e => ?_, fun h' k1 k2 => ?_, fun q hq => (hall q (List.mem_filter.mp hq).1).2⟩
  · rcases List.mem_append.mp hq with hq | hq
    · exact N q hq
    · obtain ⟨hq, hn⟩ := List.mem_filter.mp hq
      refine ⟨(hall q hq).1, fun e => ?_, by simpa using hn⟩
      obtain ⟨oL, es, ep, e1, e2, _⟩ := F.ns
      have := (hall q hq)
      rw [e, e1] at this
      obtain ⟨t1, _, xs, n', t2⟩ := this
      cases t1
      rw [e2] at t2; cases t2
  · obtain ⟨hq, _⟩ := List.mem_filter.mp hq
    obtain ⟨ob, e1, e2⟩ := hS b hb
    have := hall q hq
    rw [e, e1] at this
    exact e2 (by rw [Option.some.inj this.1]; exact this.2.1)
  · have hk : ∀ p ∈ (a, o) :: pn, h'.get? p.1 = some p.2 := fun q hq => by
      cases e : g.get? q.1 with
      | none => exact k2 q (List.mem_filter.mpr ⟨hq, by simp [e]⟩)
      | some oq =>
        have := F.keep _ _ e
        rw [(hall q hq).1] at this; cases this
        exact k1 _ _ e
    exact ⟨⟨o, hk _ (.head _), hc, n, hd⟩, h2 h' fun q hq => hk q (.tail _ hq)⟩
theorem InPn.tup {g h : Heap} {L a : Addr} {m : PySem.Str → Option Value} {pn news : List (Addr × Obj)} {vs : List Value} {rs : Rng} (ip : InPn g pn a vs rs) (F : Fr g L h m) (N : News g L h news) (hs : ∀ p ∈ pn, p ∈ news) : IsTup h a vs.toArray := (ip h F.keep fun p hp => (N p (hs p hp)).1).1
theorem InPn.prs {g h : Heap} {L a : Addr} {m : PySem.Str → Option Value} {pn news : List (Addr × Obj)} {vs : List Value} {rs : Rng} (ip : InPn g pn a vs rs) (F : Fr g L h m) (N : News g L h news) (hs : ∀ p ∈ pn, p ∈ news) : Prs h vs rs := (ip h F.keep fun p hp => (N p (hs p hp)).1).2
theorem allLt_ne {d : Addr} : ∀ {l : List (Addr × Obj)}, AllLt d l → ∀ p ∈ l, p.1 ≠ d
  | [], _, _, q => nomatch q
  | _ :: _, x, p, q => by
    rcases List.mem_cons.mp q with rfl | q
    · exact Nat.ne_of_lt x.1
    · exact allLt_ne x.2 p q
/-- the ledger's things at S are no tuples -/
noncomputable def NotTupN (news : List (Addr × Obj)) (S : List Addr) : Prop := ∀ a ∈ S, ∃ o, (a, o) ∈ news ∧ o.cls ≠ .type "tuple"
theorem newsNotTup {g h : Heap} {L : Addr} {news : List (Addr × Obj)} {S : List Addr} (N : News g L h news) (x : NotTupN news S) : NotTup h S := fun a ha => let ⟨o, h1, h2⟩ := x a ha; ⟨o, (N _ h1).1, h2⟩
theorem NotTupN.nil {news : List (Addr × Obj)} : NotTupN news [] := fun _ q => nomatch q
theorem NotTupN.cons {a : Addr} {o : Obj} {news : List (Addr × Obj)} {S : List Addr} (e : (a, o) ∈ news) (c : o.cls ≠ .type "tuple") (r : NotTupN news S) : NotTupN news (a :: S) := fun b hb => by
  rcases List.mem_cons.mp hb with rfl | hb
  · exact ⟨o, e, c⟩
  · exact r b hb
theorem news_ne {g h : Heap} {L a b : Addr} {o o' : Obj} {news : List (Addr × Obj)} (N : News g L h news) (h1 : (a, o) ∈ news) (h2 : (b, o') ∈ news) (hc : o.cls ≠ o'.cls) : @Ne Nat a b := fun e => by
  have e1 := (N _ h1).1
  have e2 := (N _ h2).1
  simp only at e1 e2
  rw [show a = b from e, e2] at e1
  exact hc (by rw [Option.some.inj e1])

end
theorem rows63 : True := by
  k_with "m cls" => first | (simp only [ne_eq, Value.type.injEq, reduceCtorEq, not_false_eq_true]; done) | (simp; done) | ((rename Obj.cls _ = Value.type "dict" => hq'); rw [hq']; simp; done)
  k_with "k ne" => first | (refine neN ?_; (try dsimp only); first | k_extra "m ne0" | omega) | exact news_ne (by with_reducible assumption) (by k_mem) (by k_mem) (by k_extra "m cls")
  k_with "k all" => exact allLt_ne (by assumption)
  k_with "m own" => (intro _ _; k_ownIn)
  k_with "m tup" => first | assumption | exact fr_tup (by with_reducible assumption) (by with_reducible assumption) | exact News.isTup (by with_reducible assumption) (by news_mem) | exact InPn.tup (by with_reducible assumption) (by with_reducible assumption) (by with_reducible assumption) (by k_extra "m own")
  k_with "m prs0" => first | exact Prs.mono (Fr.keep (by with_reducible assumption)) (by with_reducible assumption) | with_reducible assumption | exact prs_nil | exact InPn.prs (by with_reducible assumption) (by with_reducible assumption) (by with_reducible assumption) (by k_extra "m own") | k_extra "m prs"
  k_with "m off" => (repeat' first | exact List.forall_mem_nil _ | (refine in_cons ?_ ?_; k_ne))
  k_with "m offall" => (repeat' first | exact List.forall_mem_nil _ | (refine in_cons ?_ ?_; k_all))
  trivial
section
theorem off64 : True := by
  w_top off
  trivial
section
variable {w : World} {mean : ExcName → Option Value} {mg mb : PySem.Str → Option Value} {B : Heap} {A : Around} {s : Shared} {Q E : Value → Shared → Prop}
  {a : Addr} {D dl tl ml fl nd : Addr} {hs : Nat → Int} {ts : Nat → Tok} {vn vsp vi vc : Value} {n n1 n2 : Nat} {vs tr ms fs : List Value}
set_option pp.deepTerms false
set_option pp.deepTerms.threshold 3
theorem newvar_spec {d : Addr} {items : List Value} {rs : Rng} (C : Core w mean mg mb B) (hB : Stays B s.heap) (hA : Calm A 2) (hdd : s.heap.get? D = some (dictOf (storeEs hs ts (.ref dl) (.ref fl) (.ref tl) (.ref ml) vn vsp vi vc) n)) (hi : s.heap.get? a = some (storeObj D))
  (hd : IsTup s.heap d items.toArray) (hp : Prs s.heap items rs) (hne : rs ≠ []) (hz : rs.length ≤ 1000)
  (hm : ∀ p ∈ [(dl, lstObj vs n1), (fl, lstObj fs n2)], s.heap.get? p.1 = some p.2 ∧ B.get? p.1 = none) (hn : @Ne Nat dl fl) (hnD : D ∉ [dl, fl]) (hna : a ∉ [dl, fl]) (hvs : vs.length < 1000) (hfs : fs.length < 1000)
  (hret : ∀ h' tk' v, StaysBut [dl, fl] s.heap h' → h'.get? dl = some (lstObj (vs ++ [.ref d]) (n1 + 1)) → h'.get? fl = some (lstObj (fs ++ [.ref d]) (n2 + 1)) → Q v {s with heap := h', toks := tk'}) :
  wpAny (model PR w) A (call (.ref 169) [.ref a, .ref d]) Q E s := by
  have hl := hp.length
  have h0 : 0 < items.length := by rw [hl]; exact List.length_pos_iff.mpr hne
  k_extra "m enter"
  rename_i g0 L0 h0 tk0 hg0 hL0 F0 N0 X0 T0 hB0 kg0 hlt0 hA0
  have hi' := kg0 _ _ hna hi
  have hd' := kg0 _ _ hnD hdd
  have tk' := StaysBut.tup kg0 (.cons (hm _ (.head _)).1 (by simp) (.cons (hm _ (.tail _ (.head _))).1 (by simp) .nil))
  have hd1 := IsTup.tup tk' hd
  have hp1 := hp.tup tk'
  k_steps

  · rename Fr _ _ _ _ => F3
    rename News _ _ _ _ => N3
    have e1 := News.get N3 (a := dl) (by news_mem)
    have e2 := News.get N3 (a := fl) (by news_mem)
    exact hret _ _ _ (fun b o hn e => F3.keep b o (kg0 b o hn e)) e1 e2
end

end
section
theorem off66 : True := by
  w_top off
  trivial
section
variable {w : World} {mean : ExcName → Option Value} {mg mb : PySem.Str → Option Value} {B : Heap} {A : Around} {s : Shared} {Q E : Value → Shared → Prop}
  {a : Addr} {D dl tl ml fl nd : Addr} {hs : Nat → Int} {ts : Nat → Tok} {vsp vi vc : Value} {n n1 n2 nn : Nat} {vs tr ms fs : List Value} {od : Obj}
set_option pp.deepTerms false
theorem own66_1 : True := by
  k_with "call ref" => (k_here; (with_reducible show wpAny _ _ (call (Value.ref 141) _) _ _ _); k_dflt (refine' struck_spec (by assumption) (by k_extra "m stays") (by k_extra "m calm") (by assumption) (by first | assumption | exact LitAt.mono (Fr.keep (by with_reducible assumption)) (by with_reducible assumption)) (by k_extra "m tup") (by k_extra "m prs") (by assumption) ?_; intro _ _ _ kc dc; (rename Fr _ _ _ _ => kF'); (rename News _ _ _ _ => kN'); (have F' := Fr.keeps kF' kc); (have N' := News.grown kN' kc); (obtain ⟨ac, vc, pc, ec, N2, offc, ipc, zc⟩ := absorb F' N' dc _ (newsNotTup N' (by assumption))); subst ec; clear kF' kN' N'; (try dsimp only [List.cons_append, List.nil_append] at N2); revert kc dc F' ac vc pc N2 offc ipc zc; intro _ _ _ _ _ _ _ _ _ _; (try dsimp only); (try k_fold)))
  trivial
set_option pp.deepTerms.threshold 3
noncomputable def EntryIs (h : Heap) (v : Value) (x : Nat) (d : Value) : Prop := ∃ p t v3 v4 v5, v = .ref p ∧ IsTup h p #[.int (x : Int) t, d, v3, v4, v5]
theorem enter_spec {d l : Addr} {items : List Value} {rs : Rng} {way x : Nat} {k : Int} {t1 t2 t3 t5 : Tok} (C : Core w mean mg mb B) (hB : Stays B s.heap) (hA : Calm A 8) (hdd : s.heap.get? D = some (dictOf (storeEs hs ts (.ref dl) (.ref fl) (.ref tl) (.ref ml) (.ref nd) vsp vi vc) n)) (hi : s.heap.get? a = some (storeObj D))
  (hw : way < 3) (hl : IsTup s.heap l #[.int (x : Int) t1, .str (Str.ofString (signOf way)) t2, .int k t3]) (hvx : vs[x]? = some (.ref d)) (hd : IsTup s.heap d items.toArray) (hp : Prs s.heap items rs) (hz : rs.length ≤ 1000)
  (hne : struckBy way rs k ≠ []) (hch : struckBy way rs k ≠ rs) (hvs : vs.length ≤ 1000) (htr : tr.length ≤ 1000) (hnn : nn ≤ 1000) (hod : IntDictIs od nn) (hxl : x < vs.length) (hxf : x < 2 ^ 62)
  (hm : ∀ p ∈ [(dl, lstObj vs n1), (tl, lstObj tr n2), (nd, od)], s.heap.get? p.1 = some p.2 ∧ B.get? p.1 = none) (hn1 : @Ne Nat dl tl) (hn2 : @Ne Nat dl nd) (hn3 : @Ne Nat tl nd) (hnD : D ∉ [dl, tl, nd]) (hna : a ∉ [dl, tl, nd])
  (hret : ∀ h' tk' od' r e, StaysBut [dl, tl, nd] s.heap h' → h'.get? dl = some (lstObj (vs.set x r) n1) → h'.get? tl = some (lstObj (tr ++ [e]) (n2 + 1)) → h'.get? nd = some od' → IntDictIs od' (nn + 1) → DomAt h' r (struckBy way rs k) → EntryIs h' e x (.ref d) → Q (.bool true) {s with heap := h', toks := tk'}) :
  wpAny (model PR w) A (call (.ref 246) [.ref a, .ref l, .none, .int (-1) t5]) Q E s := by
  k_extra "m enter"
  rename_i g0 L0 h0 tk0 hg0 hL0 F0 N0 X0 T0 hB0 kg0 hlt0 hA0
  have hi' := kg0 _ _ hna hi
  have hd' := kg0 _ _ hnD hdd
  have tk' := StaysBut.tup kg0 (.cons (hm _ (.head _)).1 (by simp) (.cons (hm _ (.tail _ (.head _))).1 (by simp) (.cons (hm _ (.tail _ (.tail _ (.head _)))).1 (by rw [show (nd, od).2 = od from rfl, hod.1]; simp) .nil)))
  have hd1 := IsTup.tup tk' hd
  have hl1 := IsTup.tup tk' hl
  have hp1 := hp.tup tk'
  have hodc := hod.1
  have hlit : LitAt g0 (.ref l) x way k := ⟨l, t1, t2, t3, rfl, hl1⟩
  have hS : NotTupN [(dl, lstObj vs n1), (tl, lstObj tr n2), (nd, od)] [dl, tl, nd] := .cons (.head _) (by simp) (.cons (.tail _ (.head _)) (by simp) (.cons (.tail _ (.tail _ (.head _))) (by rw [hod.1]; simp) .nil))
  k_steps
  dsimp only
  k_steps
  rename Fr _ _ _ _ => F3
  rename News _ _ _ _ => N3
  rename InPn _ _ _ _ _ => ip
  rename IntDictIs _ (nn + 1) => d3
  have e1 := News.get N3 (a := dl) (by k_mem)
  have e2 := News.get N3 (a := tl) (by k_mem)
  have e3 := News.get N3 (a := nd) (by k_mem)
  refine hret _ _ _ _ _ (fun b o hn e => F3.keep b o (kg0 b o hn e)) e1 e2 e3 d3 ⟨_, _, rfl, InPn.tup ip F3 N3 (by k_extra "m own"), InPn.prs ip F3 N3 (by k_extra "m own")⟩ ⟨_, _, _, _, _, rfl, News.isTup N3 (by k_mem)⟩
end

end
theorem rows66 : True := by
  k_with_none
  k_with "m mem" => first | exact mem0 | exact mem1 | exact mem2 | exact mem3 | (refine' mem4 ?_; k_extra "m mem")
  k_with "k ne" => (refine neN ?_; (try dsimp only); k_extra "m ne0")
  k_with "m lt0" => first | with_reducible assumption | (refine lt_from (by with_reducible assumption) ?_; intro hh; first | exact hh.1 | exact hh.2 | exact hh.2.1 | exact hh.2.2 | exact hh.2.2.1 | exact hh.2.2.2 | exact hh.2.2.2.1 | exact hh.2.2.2.2 | exact hh.2.2.2.2.1 | exact hh.2.2.2.2.2 | exact hh.2.2.2.2.2.1 | exact hh.2.2.2.2.2.2 | exact hh.2.2.2.2.2.2.1 | exact hh.2.2.2.2.2.2.2 | exact hh.2.2.2.2.2.2.2.1 | exact hh.2.2.2.2.2.2.2.2 | exact hh.2.2.2.2.2.2.2.2.1 | exact hh.2.2.2.2.2.2.2.2.2 | exact hh.2.2.2.2.2.2.2.2.2.1 | exact hh.2.2.2.2.2.2.2.2.2.2 | exact hh.2.2.2.2.2.2.2.2.2.2.1 | exact hh.2.2.2.2.2.2.2.2.2.2.2 | exact hh.2.2.2.2.2.2.2.2.2.2.2.1 | exact hh.2.2.2.2.2.2.2.2.2.2.2.2 | exact hh.2.2.2.2.2.2.2.2.2.2.2.2.1 | exact hh.2.2.2.2.2.2.2.2.2.2.2.2.2 | exact hh.2.2.2.2.2.2.2.2.2.2.2.2.2.1 | exact hh.2.2.2.2.2.2.2.2.2.2.2.2.2.2 | exact hh.2.2.2.2.2.2.2.2.2.2.2.2.2.2.1 | exact hh.2.2.2.2.2.2.2.2.2.2.2.2.2.2.2 | exact hh.2.2.2.2.2.2.2.2.2.2.2.2.2.2.2.1 | exact hh.2.2.2.2.2.2.2.2.2.2.2.2.2.2.2.2 | exact hh.2.2.2.2.2.2.2.2.2.2.2.2.2.2.2.2.1 | exact hh.2.2.2.2.2.2.2.2.2.2.2.2.2.2.2.2.2 | exact hh.2.2.2.2.2.2.2.2.2.2.2.2.2.2.2.2.2.1 | exact hh.2.2.2.2.2.2.2.2.2.2.2.2.2.2.2.2.2.2 | exact hh.2.2.2.2.2.2.2.2.2.2.2.2.2.2.2.2.2.2.1 | exact hh.2.2.2.2.2.2.2.2.2.2.2.2.2.2.2.2.2.2.2 | exact hh.2.2.2.2.2.2.2.2.2.2.2.2.2.2.2.2.2.2.2.1 | exact hh.2.2.2.2.2.2.2.2.2.2.2.2.2.2.2.2.2.2.2.2 | exact hh.2.2.2.2.2.2.2.2.2.2.2.2.2.2.2.2.2.2.2.2.1 | exact hh.2.2.2.2.2.2.2.2.2.2.2.2.2.2.2.2.2.2.2.2.2 | exact hh.2.2.2.2.2.2.2.2.2.2.2.2.2.2.2.2.2.2.2.2.2.1 | exact hh.2.2.2.2.2.2.2.2.2.2.2.2.2.2.2.2.2.2.2.2.2.2)
  k_with "m lt" => first | k_extra "m lt0" | omega
  k_with "m ne0" => first | with_reducible assumption | exact Ne.symm (by with_reducible assumption) | exact Nat.ne_of_lt (by k_extra "m lt0") | exact Nat.ne_of_gt (by k_extra "m lt0")
  k_with "m fill" => (have hfill : Challenge.rw_pq0372_01 = Challenge.rw_pq0372_01 ∧ KF = KF := (by k_fill; exact ⟨rfl, rfl⟩); clear hfill)
  k_with "m around" => ((rename Around => mA'); (rcases mA' with ⟨_, _, _, _, _⟩); (have mE' := Calm.hh (by with_reducible assumption)); (dsimp only at mE'); subst mE')
  k_with "m enter0" => (k_extra "m around"; k_extra "m fill"; refine wpAny_call ?_; k_dflt (refine' enter0 (by assumption) (by assumption) (by assumption) (by k_is) (by k_is) (by exact BindsTo.of_eq rfl) (by exact locs rfl) ?_ (by exact rfl) (by exact rfl) (by exact rfl) (by decide); k_whole; intro _ _ _ _ _ _ _ _ _; (try dsimp only); (try k_fold)))
  k_with "m enterC0" => (k_extra "m around"; k_extra "m fill"; refine wpAny_call ?_; k_dflt (refine' enterC0 (by assumption) (by assumption) (by assumption) (by k_is) (by k_is) (by exact BindsTo.of_eq rfl) (by rfl) (by decide) ?_ (by exact rfl) (by exact rfl) (by exact rfl); k_whole; intro _ _ _ _ _ _ _ _ _ _ _; (try dsimp only); (try k_fold)))
  k_with "m cell1" => ((rename CellsAre _ _ _ => mY'); (with_unfolding_all have mY2' := CellsAre.one mY'); (obtain ⟨_, me', _⟩ := mY2'); (subst me'); clear mY')
  k_with "m cell2" => ((rename CellsAre _ _ _ => mY'); (with_unfolding_all have mY2' := CellsAre.two mY'); (obtain ⟨_, _, me', _, _⟩ := mY2'); (subst me'); clear mY')
  k_with "m tup" => first | assumption | exact fr_tup (by with_reducible assumption) (by with_reducible assumption) | exact News.isTup (by with_reducible assumption) (by news_mem)
  k_with "m list" => first | assumption | exact fr_list (by with_reducible assumption) (by with_reducible assumption) | exact News.isList (by with_reducible assumption) (by news_mem)
  k_with "call builtin:len" => (k_here; (with_reducible show wpAny _ _ (call (Value.builtin "len") [Value.ref _]) _ _ _); k_dflt first | (refine' len_tup (by k_extra "m tup") (by first | assumption | (with_reducible decide) | omega | (simp only [List.length_append, List.length_cons, List.length_nil]; first | decide | omega)) ?_; k_whole; intro _ _) | (refine' len_lst (by k_extra "m list") (by first | assumption | (with_reducible decide) | omega | (simp only [List.length_append, List.length_cons, List.length_nil]; first | decide | omega)) ?_; k_whole; intro _ _))
  k_with "subscriptTail" => (k_here; (with_reducible show wpAny _ _ (subscriptTail _ _ (Value.ref _) (Value.int (-1) _)) _ _ _); (with_unfolding_all refine' tup_last (by k_extra "m tup") (by first | assumption | rfl) ?_ (by with_unfolding_all rfl); k_whole))
  k_with "subscriptTail" => (k_here; (with_reducible show wpAny _ _ (subscriptTail _ _ (Value.ref _) (Value.int _ _)) _ _ _); (with_unfolding_all apply tup_at); (case ht => k_extra "m tup"); (first | ((case hk => with_unfolding_all rfl); (case hx => first | assumption | rfl)) | ((case hx => assumption); (case hk => omega))); (case hf => first | decide | omega); (case hs => with_unfolding_all rfl); k_whole)
  k_with "subscriptTail" => (k_here; (with_reducible show wpAny _ _ (subscriptTail _ _ (Value.ref _) (Value.int _ _)) _ _ _); (with_unfolding_all apply list_at); (case ht => k_extra "m list"); (first | ((case hk => with_unfolding_all rfl); (case hx => first | assumption | rfl)) | ((case hx => assumption); (case hk => omega))); (case hf => first | decide | omega); (case hs => with_unfolding_all rfl); k_whole)
  k_with "k inst" => exact instAt_base (by assumption) (by assumption) (by assumption)
  k_with "m stays" => first | with_reducible assumption | exact stays_fr (by with_reducible assumption) (by with_reducible assumption)
  k_with "m calm" => exact Calm.le (by assumption) (by decide)
  k_with "m kept" => ((rename Fr _ _ _ _ => kF'); (rename News _ _ _ _ => kN'); (refine kept_of (by with_reducible assumption) kF' kN' ?_); clear kF' kN'; intro _ _; (try dsimp only); (try k_fold))
  k_with "eval Name" => ((with_reducible show wpAny _ _ (eval (Expr.Name _ _) (compEnvC _ _ _ _)) _ _ _); k_dflt first | (apply comp_local; (case F => with_reducible assumption); (case hk => rfl); (case hl => with_unfolding_all rfl); (case hd => decide); (case hm => first | with_reducible assumption | with_unfolding_all rfl); k_whole) | (apply comp_cell; (case F => with_reducible assumption); (case hk => rfl); (case hl => with_unfolding_all rfl); (case hd => decide); (case hc => with_unfolding_all rfl); (case ho => assumption); (case hv => with_reducible assumption); k_whole) | (apply comp_builtin; (case F => with_reducible assumption); (case T => with_reducible assumption); (case k => with_reducible assumption); (case hg => rfl); (case hb => rfl); (case hk => rfl); (case hx => with_unfolding_all rfl); (case hd => decide); (case h2 => first | exact mb_max (by with_reducible assumption) | exact mb_min (by with_reducible assumption)); (case h1 => first | exact mg_max (by with_reducible assumption) | exact mg_min (by with_reducible assumption)); k_whole))
  k_with "call builtin:max" => ((with_reducible show wpAny _ _ (call (Value.builtin _) [Value.int _ _, Value.int _ _]) _ _ _); k_dflt (refine' comp_max (by with_reducible assumption) (by first | exact Calm.hh (by assumption) | with_unfolding_all rfl) ?_; k_whole; intro _ _ _ _ _))
  k_with "call builtin:min" => ((with_reducible show wpAny _ _ (call (Value.builtin _) [Value.int _ _, Value.int _ _]) _ _ _); k_dflt (refine' comp_min (by with_reducible assumption) (by first | exact Calm.hh (by assumption) | with_unfolding_all rfl) ?_; k_whole; intro _ _ _ _ _))
  k_with "newTuple" => (k_dflt (refine' comp_tuple (by with_reducible assumption) ?_ (by rfl); k_whole; intro _ _ _ _))
  k_with "call type:tuple" => ((with_reducible show wpAny _ _ (call (Value.type _) [Value.ref _]) _ _ _); k_dflt (refine' tuple_of (by with_reducible assumption) (by with_reducible assumption) (by k_extra "m list") (by first | assumption | omega) ?_; k_whole; intro _ _ _ _ _ _))
  k_with "call ref" => (k_here; (with_reducible show wpAny _ _ (call (Value.ref 77) _) _ _ _); k_dflt (refine' least_spec (by assumption) (by k_extra "m stays") (by k_extra "m calm") (by k_extra "m tup") (by assumption) (by k_extra "m tup") ?_; intro _ _ _ _; k_extra "m kept"))
  k_with "call ref" => (k_here; (with_reducible show wpAny _ _ (call (Value.ref 84) _) _ _ _); k_dflt (refine' greatest_spec (by assumption) (by k_extra "m stays") (by k_extra "m calm") (by k_extra "m tup") (by assumption) (by k_extra "m tup") ?_; intro _ _ _ _; k_extra "m kept"))
  k_with "call ref" => (k_here; (with_reducible show wpAny _ _ (call (Value.ref 183) _) _ _ _); k_dflt (refine' dom_spec (by assumption) (by k_extra "m stays") (by k_extra "m calm") (by k_extra "m desk") (by assumption) (by assumption) ?_; intro _ _ _; k_extra "m kept"))
  k_with "call ref" => (k_here; (with_reducible show wpAny _ _ (call (Value.ref 197) _) _ _ _); k_dflt (refine' low_spec (by assumption) (by k_extra "m stays") (by k_extra "m calm") (by k_extra "m desk") (by assumption) (by assumption) (by k_extra "m tup") (by assumption) (by k_extra "m tup") ?_; intro _ _ _ _; k_extra "m kept"))
  k_with "call ref" => (k_here; (with_reducible show wpAny _ _ (call (Value.ref 204) _) _ _ _); k_dflt (refine' high_spec (by assumption) (by k_extra "m stays") (by k_extra "m calm") (by k_extra "m desk") (by assumption) (by assumption) (by k_extra "m tup") (by assumption) (by k_extra "m tup") ?_; intro _ _ _ _; k_extra "m kept"))
  k_with "call ref" => (k_here; (with_reducible show wpAny _ _ (call (Value.ref 89) _) _ _ _); k_dflt (refine' size_spec (by assumption) (by k_extra "m stays") (by k_extra "m calm") (by k_extra "m tup") (by first | assumption | exact Prs.mono (Fr.keep (by with_reducible assumption)) (by with_reducible assumption)) (by assumption) ?_; intro _ _ _ _; k_extra "m kept"))
  k_with "m prs" => first | with_reducible assumption | exact Prs.mono (Fr.keep (by with_reducible assumption)) (by with_reducible assumption)
  k_with "call ref" => (k_here; (with_reducible show wpAny _ _ (call (Value.ref 108) _) _ _ _); k_dflt (refine' upTo_spec (by assumption) (by k_extra "m stays") (by k_extra "m calm") (by k_extra "m tup") (by k_extra "m prs") (by assumption) ?_; intro _ _ _ kc dc; (obtain ⟨ac, vc, ec, tc, pc⟩ := dc); subst ec; revert kc ac vc tc pc; intro _ _ _ _ _; k_extra "m kept"))
  k_with "call ref" => (k_here; (with_reducible show wpAny _ _ (call (Value.ref 113) _) _ _ _); k_dflt (refine' fromOn_spec (by assumption) (by k_extra "m stays") (by k_extra "m calm") (by k_extra "m tup") (by k_extra "m prs") (by assumption) ?_; intro _ _ _ kc dc; (obtain ⟨ac, vc, ec, tc, pc⟩ := dc); subst ec; revert kc ac vc tc pc; intro _ _ _ _ _; k_extra "m kept"))
  k_with "call ref" => (k_here; (with_reducible show wpAny _ _ (call (Value.ref 120) _) _ _ _); k_dflt (refine' without_spec (by assumption) (by k_extra "m stays") (by k_extra "m calm") (by k_extra "m tup") (by k_extra "m prs") (by assumption) ?_; intro _ _ _ kc dc; (obtain ⟨ac, vc, ec, tc, pc⟩ := dc); subst ec; revert kc ac vc tc pc; intro _ _ _ _ _; k_extra "m kept"))
  k_with "call ref" => (k_here; (with_reducible show wpAny _ _ (call (Value.ref 141) _) _ _ _); k_dflt (refine' struck_spec (by assumption) (by k_extra "m stays") (by k_extra "m calm") (by assumption) (by first | assumption | exact LitAt.mono (Fr.keep (by with_reducible assumption)) (by with_reducible assumption)) (by k_extra "m tup") (by k_extra "m prs") (by assumption) ?_; intro _ _ _ kc dc; (obtain ⟨ac, vc, ec, tc, pc⟩ := dc); subst ec; revert kc ac vc tc pc; intro _ _ _ _ _; k_extra "m kept"))
  k_with "m desk" => first | assumption | exact DeskR.mono (Fr.keep (by with_reducible assumption)) (by assumption) | exact DeskR.mono (by with_reducible assumption) (by assumption)
  k_with "call ref" => (k_here; (with_reducible show wpAny _ _ (call (Value.ref 232) _) _ _ _); k_dflt (refine' width_spec (by assumption) (by k_extra "m stays") (by k_extra "m calm") (by k_extra "m desk") (by assumption) (by assumption) (by k_extra "m tup") (by k_extra "m prs") (by assumption) ?_; intro _ _ _ _; k_extra "m kept"))
  k_with "call ref" => (k_here; (with_reducible show wpAny _ _ (call (Value.ref 218) _) _ _ _); k_dflt (refine' is_fixed_spec (by assumption) (by k_extra "m stays") (by k_extra "m calm") (by k_extra "m desk") (by assumption) (by assumption) (by k_extra "m tup") (by k_extra "m prs") (by assumption) (by assumption) ?_; intro _ _ _; k_extra "m kept"))
  k_with "m in" => (repeat' (first | exact List.forall_mem_nil _ | (refine in_cons ?_ ?_; (with_unfolding_all rfl))))
  k_with "m out" => (intro my' mhy'; (repeat' first | (with_reducible exact rfl) | refine out_mem mhy' (by with_reducible k_extra "m mem") ?_ | refine out_rmem mhy' (by with_reducible k_extra "m mem") ?_ | refine out_same mhy' ?_ _ (by rfl) | refine out_ov mhy' ?_ _ (by kernel_rfl)))
  k_with "m sub" => (intro mp' mhp'; (simp only [List.mem_cons, List.not_mem_nil, or_false, List.mem_append] at mhp' ⊢); (first | exact mhp' | (rcases mhp' with mhp' | mhp' <;> simp [mhp']) | simp [mhp']))
  k_with "m for range" => (k_here; k_dflt (refine' for_rangeF (by with_reducible assumption) (by with_unfolding_all rfl) ?_ (by rfl) (by with_unfolding_all rfl) (by rfl) (by (intro _; rfl)); k_whole))
  k_with "m for tup" => (k_here; k_dflt (refine' for_tupF (by with_reducible assumption) (by with_unfolding_all rfl) ?_ (by rfl) (by with_unfolding_all rfl) (by rfl) (by (intro _; rfl)); k_whole))
  k_with "m for pairs" => (k_here; k_dflt (refine' for_pairsF (by with_reducible assumption) (by with_unfolding_all rfl) ?_ (by rfl) (by with_unfolding_all rfl) (by with_unfolding_all rfl) (by rfl) (by (intro _; rfl)); k_whole))
  k_with "call ref" => (k_here; (with_reducible show wpAny _ _ (call (Value.ref 56) _) _ _ _); k_dflt (refine' median_spec (by assumption) (by k_extra "m stays") (by k_extra "m calm") (by k_extra "m desk") (by assumption) (by assumption) (by k_extra "m tup") (by k_extra "m prs") (by assumption) (by assumption) ?_; intro _ _ _ _; k_extra "m kept"))
  k_with "m map" => first | assumption | exact fr_map (by with_reducible assumption) (by with_reducible assumption)
  k_with "m br" => first | assumption | exact BrR.mono (Fr.keep (by with_reducible assumption)) (by assumption) | exact BrR.mono (by with_reducible assumption) (by assumption)
  k_with "call ref" => (k_here; (with_reducible show wpAny _ _ (call (Value.ref 42) _) _ _ _); k_dflt (refine' rank_spec (by assumption) (by k_extra "m stays") (by k_extra "m calm") (by k_extra "m desk") (by k_extra "m br") (by assumption) (by assumption) (by assumption) (by assumption) (by k_extra "m tup") (by k_extra "m prs") (by assumption) (by assumption) ?_; intro _ _ _ _ _ kc fc oc; (rename Fr _ _ _ _ => kF'); (rename News _ _ _ _ => kN'); (have F' := Fr.keeps kF' kc); (have N' := news_fresh kF' kN' kc fc oc); clear kF' kN'; revert kc fc oc F' N'; intro _ _ _ _ _; (try dsimp only); (try k_fold)))
  k_with "m vars" => first | assumption | exact VarsAt.mono (Fr.keep (by with_reducible assumption)) (by assumption) | exact VarsAt.mono (by with_reducible assumption) (by assumption)
  k_with "call ref" => (k_here; (with_reducible show wpAny _ _ (call (Value.ref 49) _) _ _ _); k_dflt (refine' next_spec' (by assumption) (by k_extra "m stays") (by k_extra "m calm") (by k_extra "m desk") (by k_extra "m br") (by assumption) (by k_extra "m vars") (by assumption) (by assumption) (by assumption) (by assumption) (by assumption) ?_; intro _ _ _ _; k_extra "m kept"))
  k_with "call ref" => (k_here; (with_reducible show wpAny _ _ (call (Value.ref 63) _) _ _ _); k_dflt (refine' choose_spec (by assumption) (by k_extra "m stays") (by k_extra "m calm") (by k_extra "m desk") (by k_extra "m br") (by assumption) (by k_extra "m vars") (by assumption) (by assumption) (by assumption) (by assumption) ?_; intro _ _ _ _ _; k_extra "m kept"))
  k_with "m unit" => first | exact Calm.u1 (by with_reducible assumption)
  k_with "m prs0" => first | exact Prs.mono (Fr.keep (by with_reducible assumption)) (by with_reducible assumption) | with_reducible assumption | exact prs_nil | k_extra "m prs"
  k_with "compareOp Eq ref ref" => (k_here; k_dflt (refine' eq_doms (by k_extra "m tup") (by k_extra "m prs0") (by k_extra "m tup") (by k_extra "m prs0") (by k_extra "m unit") ?_; k_whole))
  k_with "compareOp NotEq ref ref" => (k_here; k_dflt first | (apply ne_nil; (case hy => k_extra "m list"); (case hx => k_extra "m list"); (case hu => exact Calm.u (by with_reducible assumption)); k_whole) | (apply ne_doms; (case hx => k_extra "m tup"); (case px => k_extra "m prs0"); (case hy => k_extra "m tup"); (case py => k_extra "m prs0"); (case hu => k_extra "m unit"); k_whole))
  k_with "call builtin:list.append" => (k_here; (with_reducible show wpAny _ _ (call (Value.builtin _) [Value.ref _, _]) _ _ _); k_dflt (refine' append_L (by k_asm) (by k_asm) (by k_upd) (by first | assumption | omega | (simp only [List.length_append, List.length_cons, List.length_nil]; omega)) ?_; k_whole); intro _ _ N'; (try dsimp only [List.nil_append, List.cons_append] at N'); revert N'; intro _; (try k_sweep))
  k_with "m enter" => (k_extra "m around"; k_extra "m fill"; refine wpAny_call ?_; k_dflt (refine' enter _ (by assumption) (by assumption) (by assumption) (by assumption) (by k_is) (by k_is) (by exact BindsTo.of_eq rfl) (by exact locs rfl) ?_ (by exact rfl) (by exact rfl) (by exact rfl) (by decide); k_whole; intro _ _ _ _ _ _ _ _ _ _ _ _ _ _; (try dsimp only); (try k_fold)))
  k_with "setItem ref int" => (k_here; k_dflt (apply set_L; (case F => k_asm); (case N => k_asm); (case U => k_upd); (case hx => assumption); (case hz => assumption); k_whole); intro _ _ N'; (try dsimp only [List.nil_append, List.cons_append] at N'); revert N'; intro _)
  k_with "setItem ref int" => (k_here; k_dflt (refine' setD_L (by k_asm) (by k_asm) (by k_updF) (by assumption) (by assumption) ?_; k_whole); intro _ _ _ _ _ N'; (try dsimp only [List.nil_append, List.cons_append] at N'); revert N'; intro _)
  k_with "call builtin:list.pop" => (k_here; (with_reducible show wpAny _ _ (call (Value.builtin _) [Value.ref _]) _ _ _); k_dflt (apply pop_L; (case F => k_asm); (case N => k_asm); (case U => k_upd); (case hz => assumption); k_whole); intro _ _ N'; (try dsimp only [List.nil_append, List.cons_append] at N'); revert N'; intro _)
  k_with "m cls" => first | (simp only [ne_eq, Value.type.injEq, reduceCtorEq, not_false_eq_true]; done) | (simp; done) | ((rename Obj.cls _ = Value.type "dict" => hq'); rw [hq']; simp; done)
  k_with "k ne" => first | (refine neN ?_; (try dsimp only); first | k_extra "m ne0" | omega) | exact news_ne (by with_reducible assumption) (by k_mem) (by k_mem) (by k_extra "m cls")
  k_with "k all" => exact allLt_ne (by assumption)
  k_with "m own" => (intro _ _; k_ownIn)
  k_with "m tup" => first | assumption | exact fr_tup (by with_reducible assumption) (by with_reducible assumption) | exact News.isTup (by with_reducible assumption) (by news_mem) | exact InPn.tup (by with_reducible assumption) (by with_reducible assumption) (by with_reducible assumption) (by k_extra "m own")
  k_with "m prs0" => first | exact Prs.mono (Fr.keep (by with_reducible assumption)) (by with_reducible assumption) | with_reducible assumption | exact prs_nil | exact InPn.prs (by with_reducible assumption) (by with_reducible assumption) (by with_reducible assumption) (by k_extra "m own") | k_extra "m prs"
  k_with "m off" => (repeat' first | exact List.forall_mem_nil _ | (refine in_cons ?_ ?_; k_ne))
  k_with "m offall" => (repeat' first | exact List.forall_mem_nil _ | (refine in_cons ?_ ?_; k_all))
  trivial
section
theorem off67 : True := by
  w_top off
  trivial
section
variable {w : World} {mean : ExcName → Option Value} {mg mb : PySem.Str → Option Value} {B : Heap} {A : Around} {s : Shared} {Q E : Value → Shared → Prop}
  {a : Addr} {D dl tl ml fl nd : Addr} {hs : Nat → Int} {ts : Nat → Tok} {vsp vi vc : Value} {n n1 n2 nn : Nat} {vs tr ms fs : List Value} {od : Obj}
set_option pp.deepTerms false
set_option pp.deepTerms.threshold 3
theorem decide_spec {d l : Addr} {items : List Value} {rs : Rng} {way x : Nat} {k : Int} {t1 t2 t3 : Tok} (C : Core w mean mg mb B) (hB : Stays B s.heap) (hA : Calm A 9) (hdd : s.heap.get? D = some (dictOf (storeEs hs ts (.ref dl) (.ref fl) (.ref tl) (.ref ml) (.ref nd) vsp vi vc) n)) (hi : s.heap.get? a = some (storeObj D))
  (hw : way < 3) (hl : IsTup s.heap l #[.int (x : Int) t1, .str (Str.ofString (signOf way)) t2, .int k t3]) (hvx : vs[x]? = some (.ref d)) (hd : IsTup s.heap d items.toArray) (hp : Prs s.heap items rs) (hz : rs.length ≤ 1000)
  (hne : struckBy way rs k ≠ []) (hch : struckBy way rs k ≠ rs) (hvs : vs.length ≤ 1000) (htr : tr.length ≤ 1000) (hnn : nn ≤ 1000) (hod : IntDictIs od nn) (hxl : x < vs.length) (hxf : x < 2 ^ 62)
  (hm : ∀ p ∈ [(dl, lstObj vs n1), (tl, lstObj tr n2), (nd, od)], s.heap.get? p.1 = some p.2 ∧ B.get? p.1 = none) (hn1 : @Ne Nat dl tl) (hn2 : @Ne Nat dl nd) (hn3 : @Ne Nat tl nd) (hnD : D ∉ [dl, tl, nd]) (hna : a ∉ [dl, tl, nd])
  (hret : ∀ h' tk' od' r e, StaysBut [dl, tl, nd] s.heap h' → h'.get? dl = some (lstObj (vs.set x r) n1) → h'.get? tl = some (lstObj (tr ++ [e]) (n2 + 1)) → h'.get? nd = some od' → IntDictIs od' (nn + 1) → DomAt h' r (struckBy way rs k) → EntryIs h' e x (.ref d) → Q (.bool true) {s with heap := h', toks := tk'}) :
  wpAny (model PR w) A (call (.ref 260) [.ref a, .ref l]) Q E s := by
  have hodc := hod.1
  k_extra "m enter"
  rename_i g0 L0 h0 tk0 hg0 hL0 F0 N0 X0 T0 hB0 kg0 hlt0 hA0
  have hi' := kg0 _ _ hna hi
  have hd' := kg0 _ _ hnD hdd
  have tk' := StaysBut.tup kg0 (.cons (hm _ (.head _)).1 (by simp) (.cons (hm _ (.tail _ (.head _))).1 (by simp) (.cons (hm _ (.tail _ (.tail _ (.head _)))).1 (by rw [show (nd, od).2 = od from rfl, hod.1]; simp) .nil)))
  have hd1 := IsTup.tup tk' hd
  have hl1 := IsTup.tup tk' hl
  have hp1 := hp.tup tk'
  k_steps
  rename Fr _ _ _ _ => F3
  rename News _ _ _ _ => N3
  refine enter_spec C (stays_fr hB0 F3) (by k_extra "m calm") (F3.keep _ _ hd') (F3.keep _ _ hi') hw (hl1.keeps F3.keep) hvx (hd1.keeps F3.keep) (hp1.mono F3.keep) hz hne hch hvs htr hnn hod hxl hxf (fun p hp => ⟨(N3 p hp).1, (hm p hp).2⟩) hn1 hn2 hn3 hnD hna fun h' tk' od' r e k1 e1 e2 e3 d3 dr er => ?_
  k_steps
  exact hret _ _ _ _ _ (fun b o hn e => k1 b o hn (F3.keep b o (kg0 b o hn e))) e1 e2 e3 d3 dr er
end

end
section
theorem off68 : True := by
  w_top off
  trivial
/-- the trail, as the places and what they held -/
noncomputable def TrailIs (h : Heap) (tr : List Value) (es : List (Nat × Value)) : Prop := tr.length = es.length ∧ ∀ (i : Nat) e, tr[i]? = some e → ∃ x, es[i]? = some x ∧ EntryIs h e x.1 x.2
noncomputable def undo (es : List (Nat × Value)) (vs : List Value) : List Value := es.foldr (fun e r => r.set e.1 e.2) vs
theorem undo_length : ∀ (es : List (Nat × Value)) (vs : List Value), (undo es vs).length = vs.length
  | [], _ => rfl
  | e :: es, vs => by rw [undo, List.foldr_cons, List.length_set]; exact undo_length es vs
theorem undo_drop {es : List (Nat × Value)} {k : Nat} {x : Nat × Value} (h : es[k]? = some x) (vs : List Value) : undo (es.drop k) vs = (undo (es.drop (k + 1)) vs).set x.1 x.2 := by
  obtain ⟨hk, e⟩ := List.getElem?_eq_some_iff.mp h
  rw [List.drop_eq_getElem_cons hk, e]; rfl
theorem EntryIs.tup {h h' : Heap} {v d : Value} {x : Nat} (k : TupStays h h') (e : EntryIs h v x d) : EntryIs h' v x d := let ⟨p, t, a, b, c, q, r⟩ := e; ⟨p, t, a, b, c, q, IsTup.tup k r⟩
theorem TrailIs.tup {h h' : Heap} {tr : List Value} {es : List (Nat × Value)} (k : TupStays h h') (x : TrailIs h tr es) : TrailIs h' tr es := ⟨x.1, fun i e q => let ⟨y, a, b⟩ := x.2 i e q; ⟨y, a, b.tup k⟩⟩
/-- the list's items are tuples of at least one thing -/
noncomputable def FullTups (h : Heap) (fs : List Value) : Prop := ∀ y ∈ fs, ∃ d items, y = .ref d ∧ IsTup h d (List.toArray items) ∧ items ≠ []
theorem FullTups.tup {h h' : Heap} {fs : List Value} (k : TupStays h h') (x : FullTups h fs) : FullTups h' fs := fun y hy => let ⟨d, i, e, t, n⟩ := x y hy; ⟨d, i, e, IsTup.tup k t, n⟩
theorem FullTups.mono {h h' : Heap} {fs : List Value} (k : Stays h h') (x : FullTups h fs) : FullTups h' fs := x.tup k.tup
section
variable {prog : Program} {w : World} {A : Around} {E : Value → Shared → Prop} {s : Shared} {Q : Value → Shared → Prop}
open PySem.SeqAt in
theorem in_firsts {fs : List Value} {fl t : Addr} (hl : s.heap.IsList fl fs.toArray) (hf : FullTups s.heap fs) (he : IsTup s.heap t #[]) (hu : A.units + 64 < cLine) (h : Q (.bool false) s) : wpAny (model prog w) A (compareOp .In (.ref t) (.ref fl)) Q E s := by
  refine in_listAt (fun _ => false) hl (fun y hy => ?_) (by rw [show fs.toArray.any (fun _ => false) = false by simp]; exact h)
  obtain ⟨d, items, rfl, ht, hn⟩ := hf y (by simpa using hy)
  refine EqAt.of_refs (fun e => ?_) ?_
  · subst e
    obtain ⟨o, ho, hc, n, hd⟩ := he
    obtain ⟨o', ho', hc', n', hd'⟩ := ht
    rw [ho] at ho'; cases ho'
    rw [hd] at hd'
    cases items with
    | nil => exact hn rfl
    | cons a r => cases hd'
  · have := RcAt.tuples (A := A.in1) (e := fun _ => true) ht he (by show A.units + 1 < cLine; omega) (fun j h1 h2 => absurd h2 (Nat.not_lt_zero _))
    have e : ((List.range (min items.toArray.size (#[] : Array Value).size)).all (fun _ => true) && items.toArray.size == (#[] : Array Value).size) = false := by
      cases items with
      | nil => exact absurd rfl hn
      | cons a r => simp
    rw [e] at this
    exact this
end
section
variable {prog : Program} {w : World} {A : Around} {E : Value → Shared → Prop} {s : Shared} {h₀ : Heap} {L : Addr} {m : PySem.Str → Option Value} {news : List (Addr × Obj)}
theorem slice_upto {value slice : PySem.Expr} {l : Addr} {vs : List Value} {k : Int} {t : Tok} {j : Nat} {Q : Value → Shared → Prop} (F : Fr h₀ L s.heap m) (N : News h₀ L s.heap news) (hl : s.heap.IsList l vs.toArray) (hk : k = (j : Int)) (hj : j ≤ vs.length) (hz : vs.length ≤ 1000)
    (h : ∀ D h', Fr h₀ L h' m → News h₀ L h' ((D, lstObj (vs.take j) 0) :: news) → (∀ p ∈ news, p.1 < D) → Q (.ref D) { s with heap := h' })
    (hs : subscripted slice false (.ref l) (.ref s.heap.objs.size) = operate [.ref s.heap.objs.size, .ref l] (getItem (.ref l) (.ref s.heap.objs.size)) := by with_unfolding_all rfl)
:
    wpAny (model prog w) A (subscriptTail value slice (.ref l) (.ref s.heap.objs.size)) Q E { s with heap := s.heap.push { cls := .type "slice", data := .fields #[.none, .int k t, .none] } } := by
  subst hk
  refine kba_turn (value' := PySem.Expr.Name (PySem.Str.ofString "_") ⟨0, 0, 0, 0⟩) (fun _ => rfl) ?_
  refine PyProof.Rows.slice_list F N hl .none (.int _ _) (fun h' F' N' => ?_) hs (fun _ => rfl) (by rw [List.size_toArray]; exact le_sizeLine hz)
  rw [slicePick_upto vs.toArray j (by simpa using hj)] at N'
  exact h _ _ F' N' fun p hp => Nat.lt_succ_of_lt (Heap.lt_size (N p hp).1)
theorem slice_from {value slice : PySem.Expr} {l : Addr} {vs : List Value} {k : Int} {t : Tok} {j : Nat} {Q : Value → Shared → Prop} (F : Fr h₀ L s.heap m) (N : News h₀ L s.heap news) (hl : s.heap.IsList l vs.toArray) (hk : k = (j : Int)) (hj : j ≤ vs.length) (hz : vs.length ≤ 1000)
    (h : ∀ D h', Fr h₀ L h' m → News h₀ L h' ((D, lstObj (vs.drop j) 0) :: news) → (∀ p ∈ news, p.1 < D) → Q (.ref D) { s with heap := h' })
    (hs : subscripted slice false (.ref l) (.ref s.heap.objs.size) = operate [.ref s.heap.objs.size, .ref l] (getItem (.ref l) (.ref s.heap.objs.size)) := by with_unfolding_all rfl)
:
    wpAny (model prog w) A (subscriptTail value slice (.ref l) (.ref s.heap.objs.size)) Q E { s with heap := s.heap.push { cls := .type "slice", data := .fields #[.int k t, .none, .none] } } := by
  subst hk
  refine kba_turn (value' := PySem.Expr.Name (PySem.Str.ofString "_") ⟨0, 0, 0, 0⟩) (fun _ => rfl) ?_
  refine PyProof.Rows.slice_list F N hl (.int _ _) .none (fun h' F' N' => ?_) hs (fun _ => rfl) (by rw [List.size_toArray]; exact le_sizeLine hz)
  rw [slicePick_from vs.toArray j (by simpa using hj)] at N'
  exact h _ _ F' N' fun p hp => Nat.lt_succ_of_lt (Heap.lt_size (N p hp).1)
end
section
variable {prog : Program} {w : World} {A : Around} {E : Value → Shared → Prop} {s : Shared} {g : Heap} {L : Addr} {env : Env} {test : Expr} {body : List Stmt} {pos : Pos} {Q : Flow → Shared → Prop} {m₁ : PySem.Str → Option Value}
noncomputable def WhileSrc (prog : Program) (w : World) (A : Around) (g : Heap) (L : Addr) (env : Env) (test : Expr) (body : List Stmt) (Q : Flow → Shared → Prop) (E : Value → Shared → Prop) (s : Shared) : Prop :=
  ∃ (J : Nat → (PySem.Str → Option Value) → List (Addr × Obj) → Prop) (n₀ : Nat) (m : PySem.Str → Option Value) (news : List (Addr × Obj)), Fr g L s.heap m ∧ News g L s.heap news ∧ J n₀ m news ∧
    ∀ n m₁ news₁ h₁ tk₁, Fr g L h₁ m₁ → News g L h₁ news₁ → J n m₁ news₁ →
      wpAny (model prog w) A (isTrue test env (eval test env)) (fun b s₂ => if b = true then wpAny (model prog w) A (execs body env) (WhileStep g L s J n) E s₂ else Q .next s₂) E { s with heap := h₁, toks := tk₁ }
theorem while_src (F₁ : Fr g L s.heap m₁) (hE : PassesOwn (model prog w) A env E) (h : WhileSrc prog w A g L env test body Q E s) : wpAny (model prog w) A (exec (.While test body [] pos) env) Q E s := by
  obtain ⟨J, n₀, m, news, F, N, hJ, turn⟩ := h
  exact While_inv J F N hJ turn hE
end
theorem instAt_mixed {g h : Heap} {L : Addr} {m : PySem.Str → Option Value} {news : List (Addr × Obj)} {x C dx : Addr} {od : Obj} {sl : Array (Option Value)} (F : Fr g L h m) (N : News g L h news) (h1 : g.get? x = some ⟨.ref C, some dx, .plain, sl⟩) (h2 : (dx, od) ∈ news) :
    InstAt h x ⟨.ref C, some dx, .plain, sl⟩ C (some od) := ⟨F.keep _ _ h1, rfl, rfl, (N _ h2).1⟩

end
theorem rows68 : True := by
  k_with "k inst" => exact instAt_mixed (by assumption) (by assumption) (by assumption) (by k_mem)
  k_with "m full" => first | assumption | exact FullTups.mono (Fr.keep (by with_reducible assumption)) (by assumption)
  k_with "compareOp In ref ref" => (k_here; k_dflt (refine' in_firsts (by k_extra "m list") (by k_extra "m full") (by k_extra "m tup") (by k_extra "m unit") ?_; k_whole))
  k_with "m slice" => first | (apply slice_upto; (case F => k_asm); (case N => k_asm); (case hl => k_extra "m list"); (case hz => first | assumption | omega); (case hk => assumption); (case hj => assumption); (case hs => with_unfolding_all rfl); k_whole) | (apply slice_from; (case F => k_asm); (case N => k_asm); (case hl => k_extra "m list"); (case hz => first | assumption | omega); (case hk => assumption); (case hj => assumption); (case hs => with_unfolding_all rfl); k_whole)
  k_with "subscriptTail Attribute Slice ref ref" => (k_here; k_dflt (k_extra "m slice"); intro _ _ _ _ l'; (k_lt l'); revert l'; intro _; (try k_sweep))
  k_with "subscriptTail Name Slice ref ref" => (k_here; k_dflt (k_extra "m slice"); intro _ _ _ _ l'; (k_lt l'); revert l'; intro _; (try k_sweep))
  k_with "exec While Compare" => (k_here; k_dflt (refine' while_src (by with_reducible assumption) (by passes_own) ?_))
  trivial
section
theorem off69 : True := by
  w_top off
  trivial
theorem fresh_in {h g : Heap} {S : List Addr} {a : Addr} (k : StaysBut S h g) (e : g.get? a = none) (n : a ∉ S) : h.get? a = none := by
  cases q : h.get? a with
  | none => rfl
  | some o => rw [k a o n q] at e; cases e
theorem notin3 {a b c d : Nat} (h1 : b < a) (h2 : c < a) (h3 : d < a) : a ∉ [b, c, d] := fun q => by
  simp only [List.mem_cons, List.not_mem_nil, or_false] at q
  omega
inductive PopJ (j d : Nat) (ml2 D dl fl tl : Addr) (hs : Nat → Int) (ts : Nat → Tok) (vn vsp vi vc : Value) (ms : List Value) (es : List (Nat × Value)) (vs tr : List Value) (n1 : Nat) (m0 : PySem.Str → Option Value) (c : Nat) (m : PySem.Str → Option Value) (news : List (Addr × Obj)) : Prop
  | mk (n2' : Nat) (u1 : Option Value) (h1 : j ≤ c) (h2 : c ≤ d) (em : m = ov [(Str.ofString "entry", u1)] m0)
    (en : news = [(ml2, lstObj (ms.take j) 0), (D, dictOf (storeEs hs ts (.ref dl) (.ref fl) (.ref tl) (.ref ml2) vn vsp vi vc) 8), (dl, lstObj (undo (es.drop c) vs) n1), (tl, lstObj (tr.take c) n2')]) : PopJ j d ml2 D dl fl tl hs ts vn vsp vi vc ms es vs tr n1 m0 c m news
section
variable {w : World} {mean : ExcName → Option Value} {mg mb : PySem.Str → Option Value} {B : Heap} {A : Around} {s : Shared} {Q E : Value → Shared → Prop}
  {a : Addr} {D dl tl ml fl : Addr} {hs : Nat → Int} {ts : Nat → Tok} {vn vsp vi vc : Value} {n1 n2 : Nat} {vs tr ms fs : List Value} {es : List (Nat × Value)}
set_option pp.deepTerms false
set_option pp.deepTerms.threshold 3
theorem pop_spec {d p j : Nat} {tp : Tok} (C : Core w mean mg mb B) (hB : Stays B s.heap) (hA : Calm A 3) (hi : s.heap.get? a = some (storeObj D))
  (hm : ∀ p ∈ [(D, dictOf (storeEs hs ts (.ref dl) (.ref fl) (.ref tl) (.ref ml) vn vsp vi vc) 8), (dl, lstObj vs n1), (tl, lstObj tr n2)], s.heap.get? p.1 = some p.2 ∧ B.get? p.1 = none)
  (hn1 : @Ne Nat D dl) (hn2 : @Ne Nat D tl) (hn3 : @Ne Nat dl tl) (hna : a ∉ [D, dl, tl]) (hml : s.heap.IsList ml ms.toArray) (hnm : ml ∉ [D, dl, tl]) (hfl : s.heap.IsList fl fs.toArray) (hnf : fl ∉ [D, dl, tl]) (hft : FullTups s.heap fs)
  (hms : IntsAre ms ((List.range d).map fun (x : Nat) => (x : Int))) (hp1 : 1 ≤ p) (hpd : j + p = d) (hd : d ≤ 100) (htr : TrailIs s.heap tr es) (hes : es.length = d) (hxs : ∀ e ∈ es, e.1 < vs.length ∧ e.1 < 2 ^ 62) (hvs : vs.length ≤ 1000)
  (hret : ∀ h' tk' ml' nd' hs' ts' vsp' vi' vc' n2', StaysBut [D, dl, tl] s.heap h' → h'.get? D = some (dictOf (storeEs hs' ts' (.ref dl) (.ref fl) (.ref tl) (.ref ml') (.ref nd') vsp' vi' vc') 8) → h'.get? dl = some (lstObj (undo (es.drop j) vs) n1) → h'.get? tl = some (lstObj (tr.take j) n2') → h'.get? ml' = some (lstObj (ms.take j) 0) →
    (∃ od, h'.get? nd' = some od ∧ IntDictIs od 0) → s.heap.get? ml' = none → s.heap.get? nd' = none → @Ne Nat ml' nd' → Q .none {s with heap := h', toks := tk'}) :
  wpAny (model PR w) A (call (.ref 281) [.ref a, .int (p : Int) tp]) Q E s := by
  have hml1 : ms.length = d := by rw [IntsAre.length hms]; simp
  obtain ⟨tm, hmj⟩ := IntsAre.get hms j (j : Int) (by rw [List.getElem?_map, List.getElem?_range (by omega)]; rfl)
  have hkj : ((ms.length : Int) - (p : Int)) = (j : Int) := by omega
  have hjm : j ≤ ms.length := by omega
  k_extra "m enter"
  rename_i g0 L0 h0 tk0 hg0 hL0 F0 N0 X0 T0 hB0 kg0 hlt0 hA0
  have hi' := kg0 _ _ hna hi
  have hml' := isList_of kg0 hml hnm
  have hfl' := isList_of kg0 hfl hnf
  have tk' := StaysBut.tup kg0 (.cons (hm _ (.head _)).1 (by simp) (.cons (hm _ (.tail _ (.head _))).1 (by simp) (.cons (hm _ (.tail _ (.tail _ (.head _)))).1 (by simp) .nil)))
  have hft' := hft.tup tk'
  have htr' := htr.tup tk'
  k_steps
  rename Fr _ _ _ _ => F3
  rename News _ _ _ _ => N3
  rename_i ml2 hq1 lt2 hq2
  refine with_map F3 fun m0 em0 F4 => ?_
  refine ⟨PopJ j d ml2 D dl fl tl hs ts vn vsp vi vc ms es vs tr n1 m0,
    d, _, _, F3, N3, ⟨n2, m0 (Str.ofString "entry"), by omega, Nat.le_refl _, (by subst em0; exact ov_eq _ (by k_extra "m in") (by k_extra "m out")), by rw [List.drop_of_length_le (l := es) (by omega), List.take_of_length_le (l := tr) (by rw [htr.1]; omega)]; rfl⟩, ?_⟩
  rintro c m news h tk F5 N5 ⟨n2', u1, hjc, hcd, rfl, rfl⟩
  subst em0
  clear F3 F4 N3
  have hvl : (undo (es.drop c) vs).length ≤ 1000 := by rw [undo_length]; exact hvs
  by_cases hc : c = j
  · subst hc
    generalize hT : tr.take c = trk at N5
    have hlen : trk.length = c := by rw [← hT, List.length_take, htr.1]; omega
    k_steps
    rename Fr _ _ _ _ => F6
    rename News _ _ _ _ => N6
    rename Obj.IsDictOf (intKind PR w) _ [] => hdi
    rename _ ∧ _ => hlt2
    have e0 := News.get N6 (a := D) (by k_mem)
    have e1 := News.get N6 (a := dl) (by k_mem)
    have e2 := News.get N6 (a := tl) (by k_mem)
    have e3 := News.get N6 (a := ml2) (by k_mem)
    subst hT
    have e4 := News.get N6 (.tail _ (.tail _ (.head _)))
    have g4 := News.fresh N6 (.tail _ (.tail _ (.head _)))
    have g3 := News.fresh N6 (a := ml2) (by k_mem)
    exact hret _ _ ml2 _ _ _ _ _ _ _ (fun b o hn e => F6.keep b o (kg0 b o hn e)) e0 e1 e2 e3 ⟨_, e4, intDictIs_nil hdi⟩ (fresh_in (S := [D, dl, tl]) kg0 g3 (notin3 (by omega) (by omega) (by omega))) (fresh_in (S := [D, dl, tl]) kg0 g4 (notin3 (by omega) (by omega) (by omega))) (Nat.ne_of_lt (by k_extra "m lt"))
  · obtain ⟨c, rfl⟩ : ∃ c', c = c' + 1 := ⟨c - 1, by omega⟩
    obtain ⟨e, he⟩ : ∃ e, tr[c]? = some e := ⟨tr[c]'(by rw [htr.1]; omega), by simp⟩
    have hT : tr.take (c + 1) = tr.take c ++ [e] := by rw [List.take_add_one, he]; rfl
    rw [hT] at N5
    have hT1 : (tr.take c).length < 1000 := by rw [List.length_take, htr.1]; omega
    have hT2 : (tr.take c).length = c := by rw [List.length_take, htr.1]; omega
    obtain ⟨⟨x, old⟩, hex, pe, te, v3, v4, v5, rfl, hpe⟩ := htr'.2 _ _ he
    have hxm := hxs _ (List.mem_of_getElem? hex)
    have hxl : x < (undo (es.drop (c + 1)) vs).length := by rw [undo_length]; exact hxm.1
    have hxf := hxm.2
    k_steps
    · rename Fr _ _ _ _ => F6
      rename News _ _ _ _ => N6
      refine WhileStep.intro F6 N6 (Nat.lt_succ_self c) ⟨n2' + 1, some (.ref pe), by omega, by omega, (by exact ov_eq _ (by k_extra "m in") (by k_extra "m out")), ?_⟩
      rw [undo_drop hex]
    · exfalso
      rename ¬ _ => hcn
      rw [List.length_append, hT2, List.length_singleton] at hcn
      omega
end

end
section
theorem off70 : True := by
  w_top off
  trivial
/-! ## the law's own small functions -/
section
variable {w : World} {mean : ExcName → Option Value} {mg mb : PySem.Str → Option Value} {B : Heap} {A : Around} {s : Shared} {Q E : Value → Shared → Prop}
set_option pp.deepTerms false
set_option pp.deepTerms.threshold 3
theorem far_spec (C : Core w mean mg mb B) (hB : Stays B s.heap) (hA : Calm A 1)
  (hret : ∀ h' tk' t, Stays s.heap h' → Q (.int (10 ^ 40) t) {s with heap := h', toks := tk'}) :
  wpAny (model PR w) A (call (.ref 309) []) Q E s := by
  k_extra "m enter0"
  k_steps
  exact hret _ _ _ (Fr.keep (by assumption))
end

end
theorem rows70 : True := by
  k_with "call ref" => (k_here; (with_reducible show wpAny _ _ (call (Value.ref 309) _) _ _ _); k_dflt (refine' far_spec (by assumption) (by k_extra "m stays") (by k_extra "m calm") ?_; intro _ _ _ _; k_extra "m kept"))
  trivial
section
theorem off72 : True := by
  w_top off
  trivial
noncomputable def manyOf (rs : Rng) (lo hi : Int) : Int := (rs.map fun r => max 0 (min r.2 hi - max r.1 lo + 1)).sum
section
variable {w : World} {mean : ExcName → Option Value} {mg mb : PySem.Str → Option Value} {B : Heap} {A : Around} {s : Shared} {Q E : Value → Shared → Prop}
set_option pp.deepTerms false
set_option pp.deepTerms.threshold 3
theorem many_spec {l : Addr} {vs : List Value} {rs : Rng} {lo hi : Int} {t1 t2 : Tok} (C : Core w mean mg mb B) (hB : Stays B s.heap) (hA : Calm A 4) (hl : s.heap.IsList l vs.toArray) (hp : Prs s.heap vs rs) (hz : rs.length ≤ 1000)
  (hret : ∀ h' tk' t, Stays s.heap h' → Q (.int (manyOf rs lo hi) t) {s with heap := h', toks := tk'}) :
  wpAny (model PR w) A (call (.ref 328) [.ref l, .int lo t1, .int hi t2]) Q E s := by
  k_extra "m enterC0"
  k_extra "m cell2"
  k_steps
  rename News _ _ _ _ => N1
  have hc1 := News.get N1 (.head _)
  have hc2 := News.get N1 (.tail _ (.head _))
  rename _ = Data.cell _ => md2
  have hm1 : _ = Data.cell (some (.int lo t1)) := md2
  clear md2
  rename @Eq Data _ (Data.cell (bindC _ _ _ _)) => md1
  have hm2 : _ = Data.cell (some (.int hi t2)) := md1
  refine comp_pairs (fun r o _ => ∃ t, o = some (.int (max 0 (min r.2 hi - max r.1 lo + 1)) t)) (fun _ _ _ _ _ h => h) (Calm.hh (by assumption)) ?_
  k_steps
  refine ⟨l, vs, rs, rfl, .inr (by k_extra "m list"), hp.mono (Fr.keep (by assumption)), le_sizeLine hz, ?_, ?_⟩
  · intro r Cc h tk m t1 t2 E' hr hk hn hm1 hm2
    have F' : CF _ _ _ _ _ := ⟨hn, hk, fun _ _ e => e⟩
    rename Fr _ _ _ _ => Fo
    have k0 : Stays s.heap _ := Fo.keep
    refine wpAny_tests_nil ?_
    rw [if_pos rfl]
    k_steps
    exact ⟨_, _, rfl, CF.since (by assumption), _, rfl⟩
  · intro D h' tk os hD hpl hlen hG hk
    obtain ⟨nD, hD'⟩ := hpl
    have hi := ints_of_opts hlen hG
    have F' := Fr.keeps (by with_reducible assumption) hk
    have N' := news_fresh (by with_reducible assumption) (by with_reducible assumption) hk hD hD'
    k_steps
    exact hret _ _ _ (Fr.keep (by assumption))
end

end
theorem rows72 : True := by
  k_with "call ref" => (k_here; (with_reducible show wpAny _ _ (call (Value.ref 328) _) _ _ _); k_dflt (refine' many_spec (by assumption) (by k_extra "m stays") (by k_extra "m calm") (by k_extra "m list") (by k_extra "m prs") (by assumption) ?_; intro _ _ _ _; k_extra "m kept"))
  trivial
section
theorem off74 : True := by
  w_top off
  trivial
/-- the bag that the draws come from: what it reads, and how far it has come -/
noncomputable def BagIs (w : World) (o : Obj) (cl : Addr) (n : Nat) : Prop := ∃ t, Obj.IsDictOf (PySem.strKind PR w) o [(Str.ofString "cells", .ref cl), (Str.ofString "at", .int (n : Int) t)]
noncomputable def bagKvs (c a : Value) : List (PySem.Str × Value) := [(Str.ofString "cells", c), (Str.ofString "at", a)]
theorem stored_bag (c a v : Value) : stored [(Str.ofString "cells", c), (Str.ofString "at", a)] (Str.ofString "at") v = [(Str.ofString "cells", c), (Str.ofString "at", v)] := by
  have h : ¬ (Str.ofString "cells" = Str.ofString "at") := by decide
  simp [stored, h]
theorem bag_set {w : World} {A : Around} {E : Value → Shared → Prop} {s : Shared} {g : Heap} {L d : Addr} {m : PySem.Str → Option Value} {news : List (Addr × Obj)} {o : Obj} {gg : Obj → List (Addr × Obj)} {c a v : Value} {t : Tok} {Q : Unit → Shared → Prop}
    (F : Fr g L s.heap m) (N : News g L s.heap news) (U : UpdF d o news gg) (hd : Obj.IsDictOf (PySem.strKind PR w) o [(Str.ofString "cells", c), (Str.ofString "at", a)])
    (h : ∀ h' o', Fr g L h' m → News g L h' (gg o') → Obj.IsDictOf (PySem.strKind PR w) o' [(Str.ofString "cells", c), (Str.ofString "at", v)] → Q () { s with heap := h', toks := s.toks + 1 }) :
    wpAny (model PR w) A (setItem (.ref d) (.str (Str.ofString "at") t) v) Q E s :=
  kda_set F N U hd (strKind_is _ _ _ _) (by rw [sizeLine_eq]; exact Nat.le_of_ble_eq_true (by with_unfolding_all rfl)) fun h' o' F' N' hd' => h h' o' F' N' (stored_bag c a v ▸ hd')
theorem bag_cells {w : World} {A : Around} {E : Value → Shared → Prop} {s : Shared} {g : Heap} {L d : Addr} {news : List (Addr × Obj)} {o : Obj} {c a : Value} {t : Tok} {value slice : PySem.Expr} {Q : Value → Shared → Prop}
    (N : News g L s.heap news) (hm : (d, o) ∈ news) (hd : Obj.IsDictOf (PySem.strKind PR w) o [(Str.ofString "cells", c), (Str.ofString "at", a)]) (h : Q c { s with toks := s.toks + 1 })
    (hs : subscripted slice false (.ref d) (.str (Str.ofString "cells") t) = operate [.ref d, .str (Str.ofString "cells") t] (getItem (.ref d) (.str (Str.ofString "cells") t)) := by with_unfolding_all rfl)
    (hv : ∀ r, letTemporaryGo value (.ref d) r = pure () := by intro _; with_unfolding_all rfl) :
    wpAny (model PR w) A (subscriptTail value slice (.ref d) (.str (Str.ofString "cells") t)) Q E s := kda_item N hm hd (strKind_is _ _ _ _) (by rfl) h hs hv
theorem bag_at {w : World} {A : Around} {E : Value → Shared → Prop} {s : Shared} {g : Heap} {L d : Addr} {news : List (Addr × Obj)} {o : Obj} {c a : Value} {t : Tok} {value slice : PySem.Expr} {Q : Value → Shared → Prop}
    (N : News g L s.heap news) (hm : (d, o) ∈ news) (hd : Obj.IsDictOf (PySem.strKind PR w) o [(Str.ofString "cells", c), (Str.ofString "at", a)]) (h : Q a { s with toks := s.toks + 1 })
    (hs : subscripted slice false (.ref d) (.str (Str.ofString "at") t) = operate [.ref d, .str (Str.ofString "at") t] (getItem (.ref d) (.str (Str.ofString "at") t)) := by with_unfolding_all rfl)
    (hv : ∀ r, letTemporaryGo value (.ref d) r = pure () := by intro _; with_unfolding_all rfl) :
    wpAny (model PR w) A (subscriptTail value slice (.ref d) (.str (Str.ofString "at") t)) Q E s := kda_item N hm hd (strKind_is _ _ _ _) (by rfl) h hs hv
theorem own74_1 : True := by
  k_with "setItem ref str" => (k_here; (with_reducible show wpAny _ _ (setItem (Value.ref _) (Value.str (PySem.Str.ofString "at") _) _) _ _ _); k_dflt (apply bag_set; (case F => k_asm); (case N => k_asm); (case U => k_updF); (case hd => with_reducible assumption); k_whole); intro _ _ _ N' hd'; (try dsimp only at N'); revert N' hd'; intro _ _)
  k_with "subscriptTail" => (k_here; (with_reducible show wpAny _ _ (subscriptTail _ _ (Value.ref _) (Value.str (PySem.Str.ofString "cells") _)) _ _ _); k_dflt (refine' bag_cells (by k_asm) (by k_mem) (by with_reducible assumption) ?_ (by with_unfolding_all rfl) (by (intro _; with_unfolding_all rfl)); k_whole))
  k_with "subscriptTail" => (k_here; (with_reducible show wpAny _ _ (subscriptTail _ _ (Value.ref _) (Value.str (PySem.Str.ofString "at") _)) _ _ _); k_dflt (refine' bag_at (by k_asm) (by k_mem) (by with_reducible assumption) ?_ (by with_unfolding_all rfl) (by (intro _; with_unfolding_all rfl)); k_whole))
  k_with "binaryOp Mod int int" => (k_here; k_dflt (refine mod_int (by first | assumption | decide) ?_))
  trivial
section
variable {w : World} {mean : ExcName → Option Value} {mg mb : PySem.Str → Option Value} {B : Heap} {A : Around} {s : Shared} {Q E : Value → Shared → Prop}
set_option pp.deepTerms false
set_option pp.deepTerms.threshold 4
theorem draw_spec {b cl : Addr} {ob : Obj} {n : Nat} {cv : List Value} {cs : List Int} {many : Int} {tm : Tok} (C : Core w mean mg mb B) (hB : Stays B s.heap) (hA : Calm A 2) (hbo : BagIs w ob cl n) (hm : ∀ p ∈ [(b, ob)], s.heap.get? p.1 = some p.2 ∧ B.get? p.1 = none)
  (hnm : (b == sysModules) = false) (hcl : s.heap.IsList cl cv.toArray) (hcb : cl ≠ b) (hci : IntsAre cv cs) (hcz : cs.length ≤ 100) (hmany : 0 < many) (hnb : n ≤ 1000000)
  (hret : ∀ h' tk' ob' r t, StaysBut [b] s.heap h' → h'.get? b = some ob' → BagIs w ob' cl (n + 1) → 0 ≤ r → r < many → Q (.int r t) {s with heap := h', toks := tk'}) :
  wpAny (model PR w) A (call (.ref 316) [.ref b, .int many tm]) Q E s := by
  obtain ⟨t0, hbd⟩ := hbo
  have hmz : many ≠ 0 := by omega
  have hcv := IntsAre.length hci
  k_extra "m enter"
  rename_i g0 L0 h0 tk0 hg0 hL0 F0 N0 X0 T0 hB0 kg0 hlt0 hA0
  have hcl' := isList_of kg0 hcl (by simpa using hcb)
  by_cases hn : n < cv.length
  · obtain ⟨x, hx⟩ : ∃ x, cs[n]? = some x := ⟨cs[n]'(by omega), by simp⟩
    obtain ⟨tx, hcx⟩ := IntsAre.get hci n x hx
    have hn2 : n < 2 ^ 62 := by omega
    k_steps
    rename Fr _ _ _ _ => F3
    rename News _ _ _ _ => N3
    rename Obj.IsDictOf _ _ _ => d3
    exact hret _ _ _ _ _ (fun b o hn e => F3.keep b o (kg0 b o hn e)) (News.get N3 (.head _)) ⟨_, by rw [Int.natCast_succ]; exact d3⟩ (Int.fmod_nonneg_of_pos _ hmany) (Int.fmod_lt_of_pos _ hmany)
  · k_steps
    rename Fr _ _ _ _ => F3
    rename News _ _ _ _ => N3
    rename Obj.IsDictOf _ _ _ => d3
    exact hret _ _ _ _ _ (fun b o hn e => F3.keep b o (kg0 b o hn e)) (News.get N3 (.head _)) ⟨_, by rw [Int.natCast_succ]; exact d3⟩ (Int.fmod_nonneg_of_pos _ hmany) (Int.fmod_lt_of_pos _ hmany)
end

end
theorem rows74 : True := by
  k_with_none
  k_with "m mem" => first | exact mem0 | exact mem1 | exact mem2 | exact mem3 | (refine' mem4 ?_; k_extra "m mem")
  k_with "k ne" => (refine neN ?_; (try dsimp only); k_extra "m ne0")
  k_with "m lt0" => first | with_reducible assumption | (refine lt_from (by with_reducible assumption) ?_; intro hh; first | exact hh.1 | exact hh.2 | exact hh.2.1 | exact hh.2.2 | exact hh.2.2.1 | exact hh.2.2.2 | exact hh.2.2.2.1 | exact hh.2.2.2.2 | exact hh.2.2.2.2.1 | exact hh.2.2.2.2.2 | exact hh.2.2.2.2.2.1 | exact hh.2.2.2.2.2.2 | exact hh.2.2.2.2.2.2.1 | exact hh.2.2.2.2.2.2.2 | exact hh.2.2.2.2.2.2.2.1 | exact hh.2.2.2.2.2.2.2.2 | exact hh.2.2.2.2.2.2.2.2.1 | exact hh.2.2.2.2.2.2.2.2.2 | exact hh.2.2.2.2.2.2.2.2.2.1 | exact hh.2.2.2.2.2.2.2.2.2.2 | exact hh.2.2.2.2.2.2.2.2.2.2.1 | exact hh.2.2.2.2.2.2.2.2.2.2.2 | exact hh.2.2.2.2.2.2.2.2.2.2.2.1 | exact hh.2.2.2.2.2.2.2.2.2.2.2.2 | exact hh.2.2.2.2.2.2.2.2.2.2.2.2.1 | exact hh.2.2.2.2.2.2.2.2.2.2.2.2.2 | exact hh.2.2.2.2.2.2.2.2.2.2.2.2.2.1 | exact hh.2.2.2.2.2.2.2.2.2.2.2.2.2.2 | exact hh.2.2.2.2.2.2.2.2.2.2.2.2.2.2.1 | exact hh.2.2.2.2.2.2.2.2.2.2.2.2.2.2.2 | exact hh.2.2.2.2.2.2.2.2.2.2.2.2.2.2.2.1 | exact hh.2.2.2.2.2.2.2.2.2.2.2.2.2.2.2.2 | exact hh.2.2.2.2.2.2.2.2.2.2.2.2.2.2.2.2.1 | exact hh.2.2.2.2.2.2.2.2.2.2.2.2.2.2.2.2.2 | exact hh.2.2.2.2.2.2.2.2.2.2.2.2.2.2.2.2.2.1 | exact hh.2.2.2.2.2.2.2.2.2.2.2.2.2.2.2.2.2.2 | exact hh.2.2.2.2.2.2.2.2.2.2.2.2.2.2.2.2.2.2.1 | exact hh.2.2.2.2.2.2.2.2.2.2.2.2.2.2.2.2.2.2.2 | exact hh.2.2.2.2.2.2.2.2.2.2.2.2.2.2.2.2.2.2.2.1 | exact hh.2.2.2.2.2.2.2.2.2.2.2.2.2.2.2.2.2.2.2.2 | exact hh.2.2.2.2.2.2.2.2.2.2.2.2.2.2.2.2.2.2.2.2.1 | exact hh.2.2.2.2.2.2.2.2.2.2.2.2.2.2.2.2.2.2.2.2.2 | exact hh.2.2.2.2.2.2.2.2.2.2.2.2.2.2.2.2.2.2.2.2.2.1 | exact hh.2.2.2.2.2.2.2.2.2.2.2.2.2.2.2.2.2.2.2.2.2.2)
  k_with "m lt" => first | k_extra "m lt0" | omega
  k_with "m ne0" => first | with_reducible assumption | exact Ne.symm (by with_reducible assumption) | exact Nat.ne_of_lt (by k_extra "m lt0") | exact Nat.ne_of_gt (by k_extra "m lt0")
  k_with "m fill" => (have hfill : Challenge.rw_pq0372_01 = Challenge.rw_pq0372_01 ∧ KF = KF := (by k_fill; exact ⟨rfl, rfl⟩); clear hfill)
  k_with "m around" => ((rename Around => mA'); (rcases mA' with ⟨_, _, _, _, _⟩); (have mE' := Calm.hh (by with_reducible assumption)); (dsimp only at mE'); subst mE')
  k_with "m enter0" => (k_extra "m around"; k_extra "m fill"; refine wpAny_call ?_; k_dflt (refine' enter0 (by assumption) (by assumption) (by assumption) (by k_is) (by k_is) (by exact BindsTo.of_eq rfl) (by exact locs rfl) ?_ (by exact rfl) (by exact rfl) (by exact rfl) (by decide); k_whole; intro _ _ _ _ _ _ _ _ _; (try dsimp only); (try k_fold)))
  k_with "m enterC0" => (k_extra "m around"; k_extra "m fill"; refine wpAny_call ?_; k_dflt (refine' enterC0 (by assumption) (by assumption) (by assumption) (by k_is) (by k_is) (by exact BindsTo.of_eq rfl) (by rfl) (by decide) ?_ (by exact rfl) (by exact rfl) (by exact rfl); k_whole; intro _ _ _ _ _ _ _ _ _ _ _; (try dsimp only); (try k_fold)))
  k_with "m cell1" => ((rename CellsAre _ _ _ => mY'); (with_unfolding_all have mY2' := CellsAre.one mY'); (obtain ⟨_, me', _⟩ := mY2'); (subst me'); clear mY')
  k_with "m cell2" => ((rename CellsAre _ _ _ => mY'); (with_unfolding_all have mY2' := CellsAre.two mY'); (obtain ⟨_, _, me', _, _⟩ := mY2'); (subst me'); clear mY')
  k_with "m tup" => first | assumption | exact fr_tup (by with_reducible assumption) (by with_reducible assumption) | exact News.isTup (by with_reducible assumption) (by news_mem)
  k_with "m list" => first | assumption | exact fr_list (by with_reducible assumption) (by with_reducible assumption) | exact News.isList (by with_reducible assumption) (by news_mem)
  k_with "call builtin:len" => (k_here; (with_reducible show wpAny _ _ (call (Value.builtin "len") [Value.ref _]) _ _ _); k_dflt first | (refine' len_tup (by k_extra "m tup") (by first | assumption | (with_reducible decide) | omega | (simp only [List.length_append, List.length_cons, List.length_nil]; first | decide | omega)) ?_; k_whole; intro _ _) | (refine' len_lst (by k_extra "m list") (by first | assumption | (with_reducible decide) | omega | (simp only [List.length_append, List.length_cons, List.length_nil]; first | decide | omega)) ?_; k_whole; intro _ _))
  k_with "subscriptTail" => (k_here; (with_reducible show wpAny _ _ (subscriptTail _ _ (Value.ref _) (Value.int (-1) _)) _ _ _); (with_unfolding_all refine' tup_last (by k_extra "m tup") (by first | assumption | rfl) ?_ (by with_unfolding_all rfl); k_whole))
  k_with "subscriptTail" => (k_here; (with_reducible show wpAny _ _ (subscriptTail _ _ (Value.ref _) (Value.int _ _)) _ _ _); (with_unfolding_all apply tup_at); (case ht => k_extra "m tup"); (first | ((case hk => with_unfolding_all rfl); (case hx => first | assumption | rfl)) | ((case hx => assumption); (case hk => omega))); (case hf => first | decide | omega); (case hs => with_unfolding_all rfl); k_whole)
  k_with "subscriptTail" => (k_here; (with_reducible show wpAny _ _ (subscriptTail _ _ (Value.ref _) (Value.int _ _)) _ _ _); (with_unfolding_all apply list_at); (case ht => k_extra "m list"); (first | ((case hk => with_unfolding_all rfl); (case hx => first | assumption | rfl)) | ((case hx => assumption); (case hk => omega))); (case hf => first | decide | omega); (case hs => with_unfolding_all rfl); k_whole)
  k_with "k inst" => exact instAt_base (by assumption) (by assumption) (by assumption)
  k_with "m stays" => first | with_reducible assumption | exact stays_fr (by with_reducible assumption) (by with_reducible assumption)
  k_with "m calm" => exact Calm.le (by assumption) (by decide)
  k_with "m kept" => ((rename Fr _ _ _ _ => kF'); (rename News _ _ _ _ => kN'); (refine kept_of (by with_reducible assumption) kF' kN' ?_); clear kF' kN'; intro _ _; (try dsimp only); (try k_fold))
  k_with "eval Name" => ((with_reducible show wpAny _ _ (eval (Expr.Name _ _) (compEnvC _ _ _ _)) _ _ _); k_dflt first | (apply comp_local; (case F => with_reducible assumption); (case hk => rfl); (case hl => with_unfolding_all rfl); (case hd => decide); (case hm => first | with_reducible assumption | with_unfolding_all rfl); k_whole) | (apply comp_cell; (case F => with_reducible assumption); (case hk => rfl); (case hl => with_unfolding_all rfl); (case hd => decide); (case hc => with_unfolding_all rfl); (case ho => assumption); (case hv => with_reducible assumption); k_whole) | (apply comp_builtin; (case F => with_reducible assumption); (case T => with_reducible assumption); (case k => with_reducible assumption); (case hg => rfl); (case hb => rfl); (case hk => rfl); (case hx => with_unfolding_all rfl); (case hd => decide); (case h2 => first | exact mb_max (by with_reducible assumption) | exact mb_min (by with_reducible assumption)); (case h1 => first | exact mg_max (by with_reducible assumption) | exact mg_min (by with_reducible assumption)); k_whole))
  k_with "call builtin:max" => ((with_reducible show wpAny _ _ (call (Value.builtin _) [Value.int _ _, Value.int _ _]) _ _ _); k_dflt (refine' comp_max (by with_reducible assumption) (by first | exact Calm.hh (by assumption) | with_unfolding_all rfl) ?_; k_whole; intro _ _ _ _ _))
  k_with "call builtin:min" => ((with_reducible show wpAny _ _ (call (Value.builtin _) [Value.int _ _, Value.int _ _]) _ _ _); k_dflt (refine' comp_min (by with_reducible assumption) (by first | exact Calm.hh (by assumption) | with_unfolding_all rfl) ?_; k_whole; intro _ _ _ _ _))
  k_with "newTuple" => (k_dflt (refine' comp_tuple (by with_reducible assumption) ?_ (by rfl); k_whole; intro _ _ _ _))
  k_with "call type:tuple" => ((with_reducible show wpAny _ _ (call (Value.type _) [Value.ref _]) _ _ _); k_dflt (refine' tuple_of (by with_reducible assumption) (by with_reducible assumption) (by k_extra "m list") (by first | assumption | omega) ?_; k_whole; intro _ _ _ _ _ _))
  k_with "call ref" => (k_here; (with_reducible show wpAny _ _ (call (Value.ref 77) _) _ _ _); k_dflt (refine' least_spec (by assumption) (by k_extra "m stays") (by k_extra "m calm") (by k_extra "m tup") (by assumption) (by k_extra "m tup") ?_; intro _ _ _ _; k_extra "m kept"))
  k_with "call ref" => (k_here; (with_reducible show wpAny _ _ (call (Value.ref 84) _) _ _ _); k_dflt (refine' greatest_spec (by assumption) (by k_extra "m stays") (by k_extra "m calm") (by k_extra "m tup") (by assumption) (by k_extra "m tup") ?_; intro _ _ _ _; k_extra "m kept"))
  k_with "call ref" => (k_here; (with_reducible show wpAny _ _ (call (Value.ref 183) _) _ _ _); k_dflt (refine' dom_spec (by assumption) (by k_extra "m stays") (by k_extra "m calm") (by k_extra "m desk") (by assumption) (by assumption) ?_; intro _ _ _; k_extra "m kept"))
  k_with "call ref" => (k_here; (with_reducible show wpAny _ _ (call (Value.ref 197) _) _ _ _); k_dflt (refine' low_spec (by assumption) (by k_extra "m stays") (by k_extra "m calm") (by k_extra "m desk") (by assumption) (by assumption) (by k_extra "m tup") (by assumption) (by k_extra "m tup") ?_; intro _ _ _ _; k_extra "m kept"))
  k_with "call ref" => (k_here; (with_reducible show wpAny _ _ (call (Value.ref 204) _) _ _ _); k_dflt (refine' high_spec (by assumption) (by k_extra "m stays") (by k_extra "m calm") (by k_extra "m desk") (by assumption) (by assumption) (by k_extra "m tup") (by assumption) (by k_extra "m tup") ?_; intro _ _ _ _; k_extra "m kept"))
  k_with "call ref" => (k_here; (with_reducible show wpAny _ _ (call (Value.ref 89) _) _ _ _); k_dflt (refine' size_spec (by assumption) (by k_extra "m stays") (by k_extra "m calm") (by k_extra "m tup") (by first | assumption | exact Prs.mono (Fr.keep (by with_reducible assumption)) (by with_reducible assumption)) (by assumption) ?_; intro _ _ _ _; k_extra "m kept"))
  k_with "m prs" => first | with_reducible assumption | exact Prs.mono (Fr.keep (by with_reducible assumption)) (by with_reducible assumption)
  k_with "call ref" => (k_here; (with_reducible show wpAny _ _ (call (Value.ref 108) _) _ _ _); k_dflt (refine' upTo_spec (by assumption) (by k_extra "m stays") (by k_extra "m calm") (by k_extra "m tup") (by k_extra "m prs") (by assumption) ?_; intro _ _ _ kc dc; (obtain ⟨ac, vc, ec, tc, pc⟩ := dc); subst ec; revert kc ac vc tc pc; intro _ _ _ _ _; k_extra "m kept"))
  k_with "call ref" => (k_here; (with_reducible show wpAny _ _ (call (Value.ref 113) _) _ _ _); k_dflt (refine' fromOn_spec (by assumption) (by k_extra "m stays") (by k_extra "m calm") (by k_extra "m tup") (by k_extra "m prs") (by assumption) ?_; intro _ _ _ kc dc; (obtain ⟨ac, vc, ec, tc, pc⟩ := dc); subst ec; revert kc ac vc tc pc; intro _ _ _ _ _; k_extra "m kept"))
  k_with "call ref" => (k_here; (with_reducible show wpAny _ _ (call (Value.ref 120) _) _ _ _); k_dflt (refine' without_spec (by assumption) (by k_extra "m stays") (by k_extra "m calm") (by k_extra "m tup") (by k_extra "m prs") (by assumption) ?_; intro _ _ _ kc dc; (obtain ⟨ac, vc, ec, tc, pc⟩ := dc); subst ec; revert kc ac vc tc pc; intro _ _ _ _ _; k_extra "m kept"))
  k_with "call ref" => (k_here; (with_reducible show wpAny _ _ (call (Value.ref 141) _) _ _ _); k_dflt (refine' struck_spec (by assumption) (by k_extra "m stays") (by k_extra "m calm") (by assumption) (by first | assumption | exact LitAt.mono (Fr.keep (by with_reducible assumption)) (by with_reducible assumption)) (by k_extra "m tup") (by k_extra "m prs") (by assumption) ?_; intro _ _ _ kc dc; (obtain ⟨ac, vc, ec, tc, pc⟩ := dc); subst ec; revert kc ac vc tc pc; intro _ _ _ _ _; k_extra "m kept"))
  k_with "m desk" => first | assumption | exact DeskR.mono (Fr.keep (by with_reducible assumption)) (by assumption) | exact DeskR.mono (by with_reducible assumption) (by assumption)
  k_with "call ref" => (k_here; (with_reducible show wpAny _ _ (call (Value.ref 232) _) _ _ _); k_dflt (refine' width_spec (by assumption) (by k_extra "m stays") (by k_extra "m calm") (by k_extra "m desk") (by assumption) (by assumption) (by k_extra "m tup") (by k_extra "m prs") (by assumption) ?_; intro _ _ _ _; k_extra "m kept"))
  k_with "call ref" => (k_here; (with_reducible show wpAny _ _ (call (Value.ref 218) _) _ _ _); k_dflt (refine' is_fixed_spec (by assumption) (by k_extra "m stays") (by k_extra "m calm") (by k_extra "m desk") (by assumption) (by assumption) (by k_extra "m tup") (by k_extra "m prs") (by assumption) (by assumption) ?_; intro _ _ _; k_extra "m kept"))
  k_with "m in" => (repeat' (first | exact List.forall_mem_nil _ | (refine in_cons ?_ ?_; (with_unfolding_all rfl))))
  k_with "m out" => (intro my' mhy'; (repeat' first | (with_reducible exact rfl) | refine out_mem mhy' (by with_reducible k_extra "m mem") ?_ | refine out_rmem mhy' (by with_reducible k_extra "m mem") ?_ | refine out_same mhy' ?_ _ (by rfl) | refine out_ov mhy' ?_ _ (by kernel_rfl)))
  k_with "m sub" => (intro mp' mhp'; (simp only [List.mem_cons, List.not_mem_nil, or_false, List.mem_append] at mhp' ⊢); (first | exact mhp' | (rcases mhp' with mhp' | mhp' <;> simp [mhp']) | simp [mhp']))
  k_with "m for range" => (k_here; k_dflt (refine' for_rangeF (by with_reducible assumption) (by with_unfolding_all rfl) ?_ (by rfl) (by with_unfolding_all rfl) (by rfl) (by (intro _; rfl)); k_whole))
  k_with "m for tup" => (k_here; k_dflt (refine' for_tupF (by with_reducible assumption) (by with_unfolding_all rfl) ?_ (by rfl) (by with_unfolding_all rfl) (by rfl) (by (intro _; rfl)); k_whole))
  k_with "m for pairs" => (k_here; k_dflt (refine' for_pairsF (by with_reducible assumption) (by with_unfolding_all rfl) ?_ (by rfl) (by with_unfolding_all rfl) (by with_unfolding_all rfl) (by rfl) (by (intro _; rfl)); k_whole))
  k_with "call ref" => (k_here; (with_reducible show wpAny _ _ (call (Value.ref 56) _) _ _ _); k_dflt (refine' median_spec (by assumption) (by k_extra "m stays") (by k_extra "m calm") (by k_extra "m desk") (by assumption) (by assumption) (by k_extra "m tup") (by k_extra "m prs") (by assumption) (by assumption) ?_; intro _ _ _ _; k_extra "m kept"))
  k_with "m map" => first | assumption | exact fr_map (by with_reducible assumption) (by with_reducible assumption)
  k_with "m br" => first | assumption | exact BrR.mono (Fr.keep (by with_reducible assumption)) (by assumption) | exact BrR.mono (by with_reducible assumption) (by assumption)
  k_with "call ref" => (k_here; (with_reducible show wpAny _ _ (call (Value.ref 42) _) _ _ _); k_dflt (refine' rank_spec (by assumption) (by k_extra "m stays") (by k_extra "m calm") (by k_extra "m desk") (by k_extra "m br") (by assumption) (by assumption) (by assumption) (by assumption) (by k_extra "m tup") (by k_extra "m prs") (by assumption) (by assumption) ?_; intro _ _ _ _ _ kc fc oc; (rename Fr _ _ _ _ => kF'); (rename News _ _ _ _ => kN'); (have F' := Fr.keeps kF' kc); (have N' := news_fresh kF' kN' kc fc oc); clear kF' kN'; revert kc fc oc F' N'; intro _ _ _ _ _; (try dsimp only); (try k_fold)))
  k_with "m vars" => first | assumption | exact VarsAt.mono (Fr.keep (by with_reducible assumption)) (by assumption) | exact VarsAt.mono (by with_reducible assumption) (by assumption)
  k_with "call ref" => (k_here; (with_reducible show wpAny _ _ (call (Value.ref 49) _) _ _ _); k_dflt (refine' next_spec' (by assumption) (by k_extra "m stays") (by k_extra "m calm") (by k_extra "m desk") (by k_extra "m br") (by assumption) (by k_extra "m vars") (by assumption) (by assumption) (by assumption) (by assumption) (by assumption) ?_; intro _ _ _ _; k_extra "m kept"))
  k_with "call ref" => (k_here; (with_reducible show wpAny _ _ (call (Value.ref 63) _) _ _ _); k_dflt (refine' choose_spec (by assumption) (by k_extra "m stays") (by k_extra "m calm") (by k_extra "m desk") (by k_extra "m br") (by assumption) (by k_extra "m vars") (by assumption) (by assumption) (by assumption) (by assumption) ?_; intro _ _ _ _ _; k_extra "m kept"))
  k_with "m unit" => first | exact Calm.u1 (by with_reducible assumption)
  k_with "m prs0" => first | exact Prs.mono (Fr.keep (by with_reducible assumption)) (by with_reducible assumption) | with_reducible assumption | exact prs_nil | k_extra "m prs"
  k_with "compareOp Eq ref ref" => (k_here; k_dflt (refine' eq_doms (by k_extra "m tup") (by k_extra "m prs0") (by k_extra "m tup") (by k_extra "m prs0") (by k_extra "m unit") ?_; k_whole))
  k_with "compareOp NotEq ref ref" => (k_here; k_dflt first | (apply ne_nil; (case hy => k_extra "m list"); (case hx => k_extra "m list"); (case hu => exact Calm.u (by with_reducible assumption)); k_whole) | (apply ne_doms; (case hx => k_extra "m tup"); (case px => k_extra "m prs0"); (case hy => k_extra "m tup"); (case py => k_extra "m prs0"); (case hu => k_extra "m unit"); k_whole))
  k_with "call builtin:list.append" => (k_here; (with_reducible show wpAny _ _ (call (Value.builtin _) [Value.ref _, _]) _ _ _); k_dflt (refine' append_L (by k_asm) (by k_asm) (by k_upd) (by first | assumption | omega | (simp only [List.length_append, List.length_cons, List.length_nil]; omega)) ?_; k_whole); intro _ _ N'; (try dsimp only [List.nil_append, List.cons_append] at N'); revert N'; intro _; (try k_sweep))
  k_with "m enter" => (k_extra "m around"; k_extra "m fill"; refine wpAny_call ?_; k_dflt (refine' enter _ (by assumption) (by assumption) (by assumption) (by assumption) (by k_is) (by k_is) (by exact BindsTo.of_eq rfl) (by exact locs rfl) ?_ (by exact rfl) (by exact rfl) (by exact rfl) (by decide); k_whole; intro _ _ _ _ _ _ _ _ _ _ _ _ _ _; (try dsimp only); (try k_fold)))
  k_with "setItem ref int" => (k_here; k_dflt (apply set_L; (case F => k_asm); (case N => k_asm); (case U => k_upd); (case hx => assumption); (case hz => assumption); k_whole); intro _ _ N'; (try dsimp only [List.nil_append, List.cons_append] at N'); revert N'; intro _)
  k_with "setItem ref int" => (k_here; k_dflt (refine' setD_L (by k_asm) (by k_asm) (by k_updF) (by assumption) (by assumption) ?_; k_whole); intro _ _ _ _ _ N'; (try dsimp only [List.nil_append, List.cons_append] at N'); revert N'; intro _)
  k_with "call builtin:list.pop" => (k_here; (with_reducible show wpAny _ _ (call (Value.builtin _) [Value.ref _]) _ _ _); k_dflt (apply pop_L; (case F => k_asm); (case N => k_asm); (case U => k_upd); (case hz => assumption); k_whole); intro _ _ N'; (try dsimp only [List.nil_append, List.cons_append] at N'); revert N'; intro _)
  k_with "m cls" => first | (simp only [ne_eq, Value.type.injEq, reduceCtorEq, not_false_eq_true]; done) | (simp; done) | ((rename Obj.cls _ = Value.type "dict" => hq'); rw [hq']; simp; done)
  k_with "k ne" => first | (refine neN ?_; (try dsimp only); first | k_extra "m ne0" | omega) | exact news_ne (by with_reducible assumption) (by k_mem) (by k_mem) (by k_extra "m cls")
  k_with "k all" => exact allLt_ne (by assumption)
  k_with "m own" => (intro _ _; k_ownIn)
  k_with "m tup" => first | assumption | exact fr_tup (by with_reducible assumption) (by with_reducible assumption) | exact News.isTup (by with_reducible assumption) (by news_mem) | exact InPn.tup (by with_reducible assumption) (by with_reducible assumption) (by with_reducible assumption) (by k_extra "m own")
  k_with "m prs0" => first | exact Prs.mono (Fr.keep (by with_reducible assumption)) (by with_reducible assumption) | with_reducible assumption | exact prs_nil | exact InPn.prs (by with_reducible assumption) (by with_reducible assumption) (by with_reducible assumption) (by k_extra "m own") | k_extra "m prs"
  k_with "m off" => (repeat' first | exact List.forall_mem_nil _ | (refine in_cons ?_ ?_; k_ne))
  k_with "m offall" => (repeat' first | exact List.forall_mem_nil _ | (refine in_cons ?_ ?_; k_all))
  k_with "k inst" => exact instAt_mixed (by assumption) (by assumption) (by assumption) (by k_mem)
  k_with "m full" => first | assumption | exact FullTups.mono (Fr.keep (by with_reducible assumption)) (by assumption)
  k_with "compareOp In ref ref" => (k_here; k_dflt (refine' in_firsts (by k_extra "m list") (by k_extra "m full") (by k_extra "m tup") (by k_extra "m unit") ?_; k_whole))
  k_with "m slice" => first | (apply slice_upto; (case F => k_asm); (case N => k_asm); (case hl => k_extra "m list"); (case hz => first | assumption | omega); (case hk => assumption); (case hj => assumption); (case hs => with_unfolding_all rfl); k_whole) | (apply slice_from; (case F => k_asm); (case N => k_asm); (case hl => k_extra "m list"); (case hz => first | assumption | omega); (case hk => assumption); (case hj => assumption); (case hs => with_unfolding_all rfl); k_whole)
  k_with "subscriptTail Attribute Slice ref ref" => (k_here; k_dflt (k_extra "m slice"); intro _ _ _ _ l'; (k_lt l'); revert l'; intro _; (try k_sweep))
  k_with "subscriptTail Name Slice ref ref" => (k_here; k_dflt (k_extra "m slice"); intro _ _ _ _ l'; (k_lt l'); revert l'; intro _; (try k_sweep))
  k_with "exec While Compare" => (k_here; k_dflt (refine' while_src (by with_reducible assumption) (by passes_own) ?_))
  k_with "call ref" => (k_here; (with_reducible show wpAny _ _ (call (Value.ref 309) _) _ _ _); k_dflt (refine' far_spec (by assumption) (by k_extra "m stays") (by k_extra "m calm") ?_; intro _ _ _ _; k_extra "m kept"))
  k_with "call ref" => (k_here; (with_reducible show wpAny _ _ (call (Value.ref 328) _) _ _ _); k_dflt (refine' many_spec (by assumption) (by k_extra "m stays") (by k_extra "m calm") (by k_extra "m list") (by k_extra "m prs") (by assumption) ?_; intro _ _ _ _; k_extra "m kept"))
  trivial
section
theorem off76 : True := by
  w_top off
  trivial
theorem q_bool {Q : Value → Shared → Prop} {a b : Bool} {s : Shared} (h : Q (.bool a) s) (e : a = b) : Q (.bool b) s := e ▸ h
noncomputable def halfOf (rs : Rng) (k : Int) : Bool := decide (manyOf rs k k = 1 ∧ (manyOf rs (k + 1) (10 ^ 40) - manyOf rs (0 - 10 ^ 40) (k - 1) = 0 ∨ manyOf rs (k + 1) (10 ^ 40) - manyOf rs (0 - 10 ^ 40) (k - 1) = 1))
section
variable {w : World} {mean : ExcName → Option Value} {mg mb : PySem.Str → Option Value} {B : Heap} {A : Around} {s : Shared} {Q E : Value → Shared → Prop}
set_option pp.deepTerms false
set_option pp.deepTerms.threshold 3
theorem half_spec {l : Addr} {vs : List Value} {rs : Rng} {k : Int} {t1 : Tok} (C : Core w mean mg mb B) (hB : Stays B s.heap) (hA : Calm A 5) (hl : s.heap.IsList l vs.toArray) (hp : Prs s.heap vs rs) (hz : rs.length ≤ 1000)
  (hret : ∀ h' tk', Stays s.heap h' → Q (.bool (halfOf rs k)) {s with heap := h', toks := tk'}) :
  wpAny (model PR w) A (call (.ref 335) [.ref l, .int k t1]) Q E s := by
  k_extra "m enter0"
  k_steps
  all_goals refine q_bool (hret _ _ (Fr.keep (by assumption))) ?_
  · rename manyOf rs k k = 1 => q
    rw [halfOf, q, Bool.eq_iff_iff]
    generalize manyOf rs (k + 1) (10 ^ 40) - manyOf rs (0 - 10 ^ 40) (k - 1) = dd
    simp only [List.any_cons, List.any_nil, Bool.or_false, Bool.or_eq_true, beq_iff_eq, decide_eq_true_eq, true_and]
    omega
  · rename manyOf rs k k ≠ 1 => q
    rw [halfOf, Bool.eq_iff_iff]
    simp only [beq_iff_eq, decide_eq_true_eq]
    exact ⟨fun x => x.1, fun x => absurd x q⟩
end

end
section
theorem off77 : True := by
  w_top off
  trivial
noncomputable def betweenOf (rs : Rng) (lo hi : Int) : Rng := rs.filterMap fun r => if r.1 ≤ hi ∧ lo ≤ r.2 then some (max r.1 lo, min r.2 hi) else none

end
theorem rows77 : True := by
  k_with "call ref" => (k_here; (with_reducible show wpAny _ _ (call (Value.ref 335) _) _ _ _); k_dflt (refine' half_spec (by assumption) (by k_extra "m stays") (by k_extra "m calm") (by k_extra "m list") (by k_extra "m prs") (by assumption) ?_; intro _ _ _; k_extra "m kept"))
  trivial
section
theorem off78 : True := by
  w_top off
  trivial
/-! ## draws in a frame whose ledger holds the bag -/
theorem fr_upd {g h h' : Heap} {L d : Addr} {m : PySem.Str → Option Value} {news : List (Addr × Obj)} {gg : Obj → List (Addr × Obj)} {o o' : Obj} (F : Fr g L h m) (N : News g L h news) (U : UpdF d o news gg) (k : StaysBut [d] h h') (e : h'.get? d = some o') :
    Fr g L h' m ∧ News g L h' (gg o') := by
  obtain ⟨pre, post, rfl, hg, h1, h2⟩ := U.split
  have z := N (d, o) (List.mem_append.mpr (.inr (.head _)))
  have hk : ∀ (b : Nat) o, b ≠ d → h.get? b = some o → h'.get? b = some o := fun b o hb e => k b o (fun q => hb (List.mem_singleton.mp q)) e
  refine ⟨fr_but1 F hk z.2.1 z.2.2, ?_⟩
  rw [hg]
  intro p hp
  rcases List.mem_append.mp hp with hp | hp
  · have y := N p (List.mem_append.mpr (.inl hp))
    exact ⟨hk _ _ (h1 p hp) y.1, y.2⟩
  · rcases List.mem_cons.mp hp with rfl | hp
    · exact ⟨e, z.2⟩
    · have y := N p (List.mem_append.mpr (.inr (.tail _ hp)))
      exact ⟨hk _ _ (h2 p hp) y.1, y.2⟩
theorem hm_one {B g h : Heap} {L b : Addr} {o : Obj} {news : List (Addr × Obj)} (N : News g L h news) (hm : (b, o) ∈ news) (hb : B.get? b = none) : ∀ p ∈ [(b, o)], h.get? p.1 = some p.2 ∧ B.get? p.1 = none := fun p hp => by
  cases List.mem_singleton.mp hp
  exact ⟨(N _ hm).1, hb⟩
theorem newTuple_L {prog : Program} {w : World} {A : Around} {E : Value → Shared → Prop} {s : Shared} {g : Heap} {L : Addr} {m : PySem.Str → Option Value} {news : List (Addr × Obj)} {vs : List Value} {Q : Value → Shared → Prop} (F : Fr g L s.heap m) (N : News g L s.heap news)
    (h : ∀ D h', Fr g L h' m → News g L h' ((D, tupObj vs) :: news) → (∀ p ∈ news, p.1 < D) → Q (.ref D) { s with heap := h' }) (hsz : vs.length ≤ sizeLine := by size_fits) :
    wpAny (model prog w) A (newTuple vs) Q E s := newTuple_N F N (fun h' F' N' => h _ h' F' N' fun p hp => Heap.lt_size (N p hp).1) hsz
theorem ranges_end {g h' : Heap} {L I q p fl b : Addr} {oI oq ob : Obj} {pn : List (Addr × Obj)} {m' : PySem.Str → Option Value} {vs : List Value} {ver tk : Nat} {f l : Int} {t u : Tok} {s₂ : Shared} {J : (PySem.Str → Option Value) → List (Addr × Obj) → Prop}
    (F : Fr g L h' m') (N : News g L h' ((q, oq) :: (p, tupObj [.int f t, .int l u]) :: (I, oI) :: (fl, lstObj (vs ++ [.ref p]) ver) :: (b, ob) :: pn)) (hp : @Ne Nat p I) (hne : ∀ r ∈ (fl, lstObj vs 0) :: (b, ob) :: pn, @Ne Nat r.1 I)
    (hJ : J m' ((fl, lstObj (vs ++ [.ref p]) ver) :: (b, ob) :: (p, tupObj [.int f t, .int l u]) :: pn)) : ForEnd g L [(I, oI)] J s₂ { s₂ with heap := h', toks := tk } := by
  refine ⟨h', tk, m', _, (fl, lstObj (vs ++ [.ref p]) ver) :: (b, ob) :: (p, tupObj [.int f t, .int l u]) :: pn, rfl, F, N, fun r hr => ?_, fun r hr => ?_, fun r hr r' hr' => ?_, hJ⟩
  · cases List.mem_singleton.mp hr; exact .tail _ (.tail _ (.head _))
  · simp only [List.mem_cons] at hr ⊢
    rcases hr with hr | hr | hr | hr <;> simp [hr]
  · cases List.mem_singleton.mp hr'
    rcases List.mem_cons.mp hr with rfl | hr
    · exact hne (fl, lstObj vs 0) (.head _)
    · rcases List.mem_cons.mp hr with rfl | hr
      · exact hne _ (.tail _ (.head _))
      · rcases List.mem_cons.mp hr with rfl | hr
        · exact hp
        · exact hne _ (.tail _ (.tail _ hr))
theorem own_cons {p : Addr} {o : Obj} {pn : List (Addr × Obj)} {a b : Addr} (h1 : @Ne Nat p a) (h2 : @Ne Nat p b) (h : OwnOff pn [a, b]) : OwnOff ((p, o) :: pn) [a, b] := fun q hq c hc => by
  rcases List.mem_cons.mp hq with rfl | hq
  · rcases List.mem_cons.mp hc with rfl | hc
    · exact h1
    · cases List.mem_singleton.mp hc; exact h2
  · exact h q hq c hc
theorem tup_pick {prog : Program} {w : World} {A : Around} {E : Value → Shared → Prop} {s : Shared} {value slice : PySem.Expr} {t : Addr} {l : List Value} {k : Int} {u : Tok} {Q : Value → Shared → Prop} (P : Int → Prop) (ht : IsTup s.heap t l.toArray)
    (h0 : 0 ≤ k) (h1 : k < l.length) (hz : l.length ≤ 1000) (hall : ∀ x ∈ l, ∃ n u, x = .int n u ∧ P n) (h : ∀ n u, P n → Q (.int n u) s)
    (hs : subscripted slice false (.ref t) (.int k u) = operate [.ref t, .int k u] (getItem (.ref t) (.int k u)) := by with_unfolding_all rfl) :
    wpAny (model prog w) A (subscriptTail value slice (.ref t) (.int k u)) Q E s := by
  obtain ⟨j, rfl⟩ := Int.eq_ofNat_of_zero_le h0
  have hj : j < l.length := by omega
  obtain ⟨n, v, hx, hp⟩ := hall l[j] (List.getElem_mem hj)
  exact tup_at (x := .int n v) ht (by rw [List.getElem?_eq_getElem hj, hx]) rfl (by omega) (h n v hp) hs
theorem BagIs.cls {w : World} {o : Obj} {cl : Addr} {n : Nat} (x : BagIs w o cl n) : o.cls = .type "dict" := let ⟨_, _, _, e, _⟩ := x; e.1

end
theorem rows78 : True := by
  k_with "call ref" => (k_here; (with_reducible show wpAny _ _ (call (Value.ref 316) _) _ _ _); (rename Fr _ _ _ _ => kF'); (rename News _ _ _ _ => kN'); k_dflt (apply draw_spec; (case C => assumption); (case hB => k_extra "m stays"); (case hA => k_extra "m calm"); (case hm => exact hm_one kN' (by k_mem) (by with_reducible assumption)); (case hbo => assumption); (case hnm => assumption); (case hcl => k_extra "m list"); (case hcb => assumption); (case hci => assumption); (case hcz => assumption); (case hmany => first | assumption | omega | (simp only [Int.reduceToNat]; omega) | decide); (case hnb => omega); intro hc tkc oc rc tc kc ec bc r0c r1c; (try simp only [Int.reduceToNat] at r1c); (rename Obj.cls _ = Value.type "dict" => hold'); (have FN' := fr_upd kF' kN' (by k_updF) kc ec); (obtain ⟨F', N'⟩ := FN'); clear kF' kN' hold'; (have dcls' := BagIs.cls bc); (try dsimp only at N'); revert hc tkc oc rc tc kc ec bc r0c r1c F' N' dcls'; intro _ _ _ _ _ _ _ _ _ _ _ _ _; (try dsimp only); (try k_fold)))
  k_with "m ints" => (repeat' (first | exact List.forall_mem_nil _ | (refine (in_cons (⟨_, _, rfl, by (try dsimp only); (try simp only [Int.reduceToNat]); omega⟩) (?_)))))
  k_with "subscriptTail" => (k_here; (with_reducible show wpAny _ _ (subscriptTail _ _ (Value.ref _) (Value.int _ _)) _ _ _); first | (apply tup_pick (fun n => 0 ≤ n ∧ n ≤ 10 ^ 15); (case ht => exact News.isTup (by with_reducible assumption) (by k_mem)); (case h0 => assumption); (case h1 => (simp only [List.length_cons, List.length_nil]; omega)); (case hz => (simp only [List.length_cons, List.length_nil]; omega)); (case hall => k_extra "m ints"); k_whole; intro _ _ px; (have px1 := px.1); (have px2 := px.2); clear px; revert px1 px2; intro _ _) | (apply tup_pick (fun n => -(10 ^ 30) ≤ n ∧ n ≤ 10 ^ 30); (case ht => exact News.isTup (by with_reducible assumption) (by k_mem)); (case h0 => assumption); (case h1 => (simp only [List.length_cons, List.length_nil]; omega)); (case hz => (simp only [List.length_cons, List.length_nil]; omega)); (case hall => k_extra "m ints"); k_whole; intro _ _ px; (have px1 := px.1); (have px2 := px.2); clear px; revert px1 px2; intro _ _))
  k_with "newTuple" => (k_here; k_dflt (refine' newTuple_L (by k_asm) (by k_asm) ?_ (by size_fits); k_whole); intro _ _ _ _ l1; (k_lt l1); revert l1; intro _; (try k_sweep))
  k_with "m om" => ((try simp only [Int.reduceToNat]); omega)
  trivial
section
theorem off79 : True := by
  w_top off
  trivial
noncomputable def PrsPn (pn : List (Addr × Obj)) (vs : List Value) (rs : Rng) : Prop := ∀ h, (∀ p ∈ pn, h.get? p.1 = some p.2) → Prs h vs rs
/-- ranges that do not touch, in order, near enough -/
noncomputable def Good (rs : Rng) : Prop := (∀ r ∈ rs, r.1 ≤ r.2 ∧ -(10 ^ 35) ≤ r.1 ∧ r.2 ≤ 10 ^ 35) ∧ rs.Pairwise fun a b => a.2 + 2 ≤ b.1
theorem good_snoc {rs : Rng} {f l : Int} (h : Good rs) (hf : ∀ r ∈ rs, r.2 + 2 ≤ f) (h1 : f ≤ l) (h2 : -(10 ^ 35) ≤ f) (h3 : l ≤ 10 ^ 35) : Good (rs ++ [(f, l)]) := by
  refine ⟨fun r hr => ?_, List.pairwise_append.mpr ⟨h.2, List.pairwise_singleton _ _, fun a ha c hc => ?_⟩⟩
  · rcases List.mem_append.mp hr with hr | hr
    · exact h.1 r hr
    · cases List.mem_singleton.mp hr; exact ⟨h1, h2, h3⟩
  · cases List.mem_singleton.mp hc; exact hf a ha
theorem after_snoc {rs : Rng} {f l f' : Int} (hf : ∀ r ∈ rs, r.2 + 2 ≤ f) (h1 : f ≤ f') (h2 : l + 2 ≤ f') : ∀ r ∈ rs ++ [(f, l)], r.2 + 2 ≤ f' := fun r hr => by
  rcases List.mem_append.mp hr with hr | hr
  · have := hf r hr; omega
  · cases List.mem_singleton.mp hr; exact h2
theorem prsPn_snoc {pn : List (Addr × Obj)} {vs : List Value} {rs : Rng} {p : Addr} {f l : Int} {t u : Tok} (h : PrsPn pn vs rs) : PrsPn ((p, tupObj [.int f t, .int l u]) :: pn) (vs ++ [.ref p]) (rs ++ [(f, l)]) := fun hh k =>
  Prs.append (h hh fun q hq => k q (.tail _ hq)) ⟨⟨p, t, u, rfl, _, k _ (.head _), rfl, 0, rfl⟩, trivial⟩
theorem own79_1 : True := by
  k_with "exec For Name Call cons nil" => k_extra "m for range"
  trivial
noncomputable def Halt9 (p : Prop) : Prop := p
theorem halt9 {p : Prop} (h : Halt9 p) : p := h
theorem own79_2 : True := by
  k_with "execs cons" => ((with_reducible show wpAny _ _ (execs (PySem.Stmt.Assign [PySem.Expr.Name (PySem.Str.ofString "more") _] _ _ :: _) _) _ _ _); refine halt9 ?_)
  k_with "execs cons" => ((with_reducible show wpAny _ _ (execs (PySem.Stmt.Assign [PySem.Expr.Name (PySem.Str.ofString "last") _] _ _ :: _) _) _ _ _); refine halt9 ?_)
  trivial
/-- a statement's end: a name holds an int between two, the bag may be drawn from -/
inductive CutP (w : World) (g : Heap) (L I fl b cl : Addr) (oI : Obj) (vs : List Value) (ver : Nat) (pn : List (Addr × Obj)) (s : Shared) (m : PySem.Str → Option Value) (x : PySem.Str) (lo hi : Int) (nb : Nat) (f : Flow) (s' : Shared) : Prop
  | mk (h : Heap) (tk : Nat) (v : Int) (t : Tok) (ob : Obj) (n : Nat) (ef : f = .next) (e : s' = { s with heap := h, toks := tk }) (F : Fr g L h (fun z => if z = x then some (.int v t) else m z)) (N : News g L h ((I, oI) :: (fl, lstObj vs ver) :: (b, ob) :: pn)) (hb : BagIs w ob cl n) (hn : n ≤ nb) (h0 : lo ≤ v) (h1 : v ≤ hi) : CutP w g L I fl b cl oI vs ver pn s m x lo hi nb f s'
inductive RangesJ (w : World) (fl b cl : Addr) (n : Nat) (m0 : PySem.Str → Option Value) (i : Nat) (m : PySem.Str → Option Value) (news : List (Addr × Obj)) : Prop
  | mk (first : Int) (t : Tok) (vs : List Value) (ver : Nat) (ob : Obj) (n' : Nat) (rs : Rng) (pn : List (Addr × Obj)) (u1 u2 u3 u4 : Option Value) (em : m = ov [(Str.ofString "first", some (.int first t)), (Str.ofString "lap", u1), (Str.ofString "kind", u2), (Str.ofString "more", u3), (Str.ofString "last", u4)] m0)
    (en : news = (fl, lstObj vs ver) :: (b, ob) :: pn) (a1 : BagIs w ob cl n') (a2 : n' ≤ n + 2 + 4 * i) (a3 : OwnOff pn [fl, b]) (a4 : PrsPn pn vs rs) (a5 : Good rs) (a6 : rs.length = i) (a7 : ∀ r ∈ rs, r.2 + 2 ≤ first) (a8 : -(10 ^ 30) ≤ first) (a9 : first ≤ 10 ^ 30 + (i : Int) * (3 * 10 ^ 30)) : RangesJ w fl b cl n m0 i m news
section
variable {w : World} {mean : ExcName → Option Value} {mg mb : PySem.Str → Option Value} {B : Heap} {A : Around} {s : Shared} {Q E : Value → Shared → Prop}
set_option pp.deepTerms false
set_option pp.deepTerms.threshold 3
theorem ranges_spec {b cl : Addr} {ob : Obj} {n : Nat} {cv : List Value} {cs : List Int} (C : Core w mean mg mb B) (hB : Stays B s.heap) (hA : Calm A 3) (hbo : BagIs w ob cl n) (hm : ∀ p ∈ [(b, ob)], s.heap.get? p.1 = some p.2 ∧ B.get? p.1 = none)
  (hnm : (b == sysModules) = false) (hcl : s.heap.IsList cl cv.toArray) (hcb : cl ≠ b) (hci : IntsAre cv cs) (hcz : cs.length ≤ 100) (hnb : n ≤ 10000)
  (hret : ∀ h' tk' ob' n' l vs ver rs, StaysBut [b] s.heap h' → h'.get? b = some ob' → BagIs w ob' cl n' → n' ≤ n + 50 → h'.get? l = some (lstObj vs ver) → s.heap.get? l = none → Prs h' vs rs → Good rs → rs ≠ [] → rs.length ≤ 4 → Q (.ref l) {s with heap := h', toks := tk'}) :
  wpAny (model PR w) A (call (.ref 323) [.ref b]) Q E s := by
  have hbc := hbo.cls
  have hbB : B.get? b = none := (hm _ (.head _)).2
  k_extra "m enter"
  rename_i g0 L0 h0 tk0 hg0 hL0 F0 N0 X0 T0 hB0 kg0 hlt0 hA0
  have hcl' := isList_of kg0 hcl (by simpa using hcb)
  k_steps
  rename_i nx ux px1 px2 fl x1 hl1 x2 x3 x4 x5 y1 y2 hc2 tkc2 oc rc tc kc ec bc r0 r1 F2 N2 dcls h6 tk6 t6 u6 v6 R3 F3 N3 k3
  clear F2 N2
  obtain ⟨kk, rfl⟩ := Int.eq_ofNat_of_zero_le r0
  rw [show (1 : Int) + (kk : Int) = ((1 + kk : Nat) : Int) by omega] at R3
  have hfb : @Ne Nat fl b := Ne.symm (Nat.ne_of_lt hl1.2)
  have N4 : News g0 L0 h6 [(fl, lstObj [] 0), (b, oc)] := fun q hq => N3 q (by
    simp only [List.mem_cons, List.not_mem_nil, or_false] at hq
    rcases hq with hq | hq <;> simp [hq])
  refine with_map F3 fun m0 em0 F4 => ?_
  refine ⟨_, 1 + kk, _, _, _, RangesJ w fl b cl n m0, _, _, rfl, R3, by omega, F3, N4,
    ⟨nx, ux, [], 0, oc, n + 2, [], [], m0 (Str.ofString "lap"), m0 (Str.ofString "kind"), m0 (Str.ofString "more"), m0 (Str.ofString "last"), (by subst em0; exact ov_eq _ (by k_extra "m in") (by k_extra "m out")), rfl, bc, by omega, (fun _ q => nomatch q), (fun _ _ => trivial), ⟨(fun _ q => nomatch q), .nil⟩, rfl, (fun _ q => nomatch q), by omega, by omega⟩, ?_, ?_⟩
  · rintro i h tk m I oI news ti E' hi ⟨first, t, vs, ver, ob2, n', rs, pn, u1, u2, u3, u4, rfl, rfl, bc2, hn', hoff, hpr, hgood, hlen, haft, hlo, hhi⟩ F5 N5 hne5
    subst em0
    clear F3 F4 N3 N4 dcls
    have dcls := bc2.cls
    have hI1 : @Ne Nat fl I := hne5 _ (.head _)
    have hI2 : @Ne Nat b I := hne5 _ (.tail _ (.head _))
    have hvl : vs.length ≤ 4 := by
      have := (hpr h fun q hq => (N5 q (.tail _ (.tail _ (.tail _ hq)))).1).length
      omega
    k_steps
    rename Fr _ _ _ _ => Fk
    rename News _ _ _ _ => Nk
    rename BagIs _ _ _ _ => bk
    unfold Halt9
    refine with_map Fk fun mk emk Fk' => ?_
    refine wpAny_execs_cons (wpAny_mono (Q := CutP w g0 L0 I fl b cl oI vs ver pn s mk (Str.ofString "more") 0 (10 ^ 12) (n' + 2)) ?_ (fun f s' hf => ?_) (fun _ _ e => e))
    · subst emk
      clear Fk'
      k_steps
      all_goals
        rename Fr _ _ _ _ => F6
        rename News _ _ _ _ => N6
        rename BagIs _ _ _ _ => b6
        exact ⟨_, _, _, _, _, _, rfl, rfl, F6, N6, b6, by omega, by k_extra "m om", by k_extra "m om"⟩
    obtain ⟨h2, tk2, more, tm, ob3, n3, rfl, rfl, F7, N7, b7, hn7, mo0, mo1⟩ := hf
    subst emk
    clear Fk Fk' Nk bk
    have dcls7 := b7.cls
    dsimp only
    k_steps
    rename Fr _ _ _ _ => Fl
    unfold Halt9
    refine with_map Fl fun ml eml Fl' => ?_
    refine wpAny_execs_cons (wpAny_mono (Q := CutP w g0 L0 I fl b cl oI vs ver pn s ml (Str.ofString "last") first (first + 10 ^ 30) n3) ?_ (fun f s' hf => ?_) (fun _ _ e => e))
    · subst eml
      clear Fl'
      k_steps
      all_goals
        rename Fr _ _ _ _ => F6
        rename News _ _ _ _ => N6
        exact ⟨_, _, _, _, _, _, rfl, rfl, F6, N6, b7, Nat.le_refl _, by k_extra "m om", by k_extra "m om"⟩
    obtain ⟨h3, tk3, last, tl, ob4, n4, rfl, rfl, F8, N8, b8, hn8, la0, la1⟩ := hf
    subst eml
    clear Fl Fl' b7 dcls7
    try clear F7
    try clear N7
    have dcls8 := b8.cls
    dsimp only
    k_steps
    all_goals first
      | (exfalso; omega)
      | (rename Fr _ _ _ _ => F6
         rename News _ _ _ _ => N6
         rename BagIs _ _ _ _ => b6
         refine ranges_end F6 N6 (Ne.symm (Nat.ne_of_lt (by k_extra "m lt"))) (fun r hr => ?_) ⟨_, _, _, _, _, _, rs ++ [(_, _)], _, _, _, _, _, ov_eq _ (by k_extra "m in") (by k_extra "m out"), rfl, b6, by omega, ?_, prsPn_snoc hpr, good_snoc hgood haft (by k_extra "m om") (by k_extra "m om") (by k_extra "m om"), by rw [List.length_append, hlen]; rfl, after_snoc haft (by k_extra "m om") (by k_extra "m om"), by k_extra "m om", by k_extra "m om"⟩
         · rcases List.mem_cons.mp hr with rfl | hr
           · exact hI1
           · rcases List.mem_cons.mp hr with rfl | hr
             · exact hI2
             · exact hne5 _ (.tail _ (.tail _ hr))
         · exact own_cons (Ne.symm (Nat.ne_of_lt (by k_extra "m lt"))) (Ne.symm (Nat.ne_of_lt (by k_extra "m lt"))) hoff)
  · rintro h tk m news ⟨first, t, vs, ver, ob2, n', rs, pn, u1, u2, u3, u4, rfl, rfl, bc2, hn', hoff, hpr, hgood, hlen, haft, hlo, hhi⟩ F5 N5
    subst em0
    clear F3 F4 N3 N4
    k_steps
    dsimp only
    k_steps
    have e1 := News.get N5 (.head _)
    have e2 := News.get N5 (.tail _ (.head _))
    have e3 := News.fresh N5 (.head _)
    exact hret _ _ _ _ _ _ _ _ (fun b o hn e => F5.keep b o (kg0 b o hn e)) e2 bc2 (by omega) e1 (fresh_in (S := [b]) kg0 e3 (by simpa using hfb)) (hpr _ fun q hq => (N5 q (.tail _ (.tail _ hq))).1) hgood (fun q => by rw [q] at hlen; simp only [List.length_nil] at hlen; omega) (by omega)
end


end
theorem rows79 : True := by
  k_with_none
  k_with "m mem" => first | exact mem0 | exact mem1 | exact mem2 | exact mem3 | (refine' mem4 ?_; k_extra "m mem")
  k_with "k ne" => (refine neN ?_; (try dsimp only); k_extra "m ne0")
  k_with "m lt0" => first | with_reducible assumption | (refine lt_from (by with_reducible assumption) ?_; intro hh; first | exact hh.1 | exact hh.2 | exact hh.2.1 | exact hh.2.2 | exact hh.2.2.1 | exact hh.2.2.2 | exact hh.2.2.2.1 | exact hh.2.2.2.2 | exact hh.2.2.2.2.1 | exact hh.2.2.2.2.2 | exact hh.2.2.2.2.2.1 | exact hh.2.2.2.2.2.2 | exact hh.2.2.2.2.2.2.1 | exact hh.2.2.2.2.2.2.2 | exact hh.2.2.2.2.2.2.2.1 | exact hh.2.2.2.2.2.2.2.2 | exact hh.2.2.2.2.2.2.2.2.1 | exact hh.2.2.2.2.2.2.2.2.2 | exact hh.2.2.2.2.2.2.2.2.2.1 | exact hh.2.2.2.2.2.2.2.2.2.2 | exact hh.2.2.2.2.2.2.2.2.2.2.1 | exact hh.2.2.2.2.2.2.2.2.2.2.2 | exact hh.2.2.2.2.2.2.2.2.2.2.2.1 | exact hh.2.2.2.2.2.2.2.2.2.2.2.2 | exact hh.2.2.2.2.2.2.2.2.2.2.2.2.1 | exact hh.2.2.2.2.2.2.2.2.2.2.2.2.2 | exact hh.2.2.2.2.2.2.2.2.2.2.2.2.2.1 | exact hh.2.2.2.2.2.2.2.2.2.2.2.2.2.2 | exact hh.2.2.2.2.2.2.2.2.2.2.2.2.2.2.1 | exact hh.2.2.2.2.2.2.2.2.2.2.2.2.2.2.2 | exact hh.2.2.2.2.2.2.2.2.2.2.2.2.2.2.2.1 | exact hh.2.2.2.2.2.2.2.2.2.2.2.2.2.2.2.2 | exact hh.2.2.2.2.2.2.2.2.2.2.2.2.2.2.2.2.1 | exact hh.2.2.2.2.2.2.2.2.2.2.2.2.2.2.2.2.2 | exact hh.2.2.2.2.2.2.2.2.2.2.2.2.2.2.2.2.2.1 | exact hh.2.2.2.2.2.2.2.2.2.2.2.2.2.2.2.2.2.2 | exact hh.2.2.2.2.2.2.2.2.2.2.2.2.2.2.2.2.2.2.1 | exact hh.2.2.2.2.2.2.2.2.2.2.2.2.2.2.2.2.2.2.2 | exact hh.2.2.2.2.2.2.2.2.2.2.2.2.2.2.2.2.2.2.2.1 | exact hh.2.2.2.2.2.2.2.2.2.2.2.2.2.2.2.2.2.2.2.2 | exact hh.2.2.2.2.2.2.2.2.2.2.2.2.2.2.2.2.2.2.2.2.1 | exact hh.2.2.2.2.2.2.2.2.2.2.2.2.2.2.2.2.2.2.2.2.2 | exact hh.2.2.2.2.2.2.2.2.2.2.2.2.2.2.2.2.2.2.2.2.2.1 | exact hh.2.2.2.2.2.2.2.2.2.2.2.2.2.2.2.2.2.2.2.2.2.2)
  k_with "m lt" => first | k_extra "m lt0" | omega
  k_with "m ne0" => first | with_reducible assumption | exact Ne.symm (by with_reducible assumption) | exact Nat.ne_of_lt (by k_extra "m lt0") | exact Nat.ne_of_gt (by k_extra "m lt0")
  k_with "m fill" => (have hfill : Challenge.rw_pq0372_01 = Challenge.rw_pq0372_01 ∧ KF = KF := (by k_fill; exact ⟨rfl, rfl⟩); clear hfill)
  k_with "m around" => ((rename Around => mA'); (rcases mA' with ⟨_, _, _, _, _⟩); (have mE' := Calm.hh (by with_reducible assumption)); (dsimp only at mE'); subst mE')
  k_with "m enter0" => (k_extra "m around"; k_extra "m fill"; refine wpAny_call ?_; k_dflt (refine' enter0 (by assumption) (by assumption) (by assumption) (by k_is) (by k_is) (by exact BindsTo.of_eq rfl) (by exact locs rfl) ?_ (by exact rfl) (by exact rfl) (by exact rfl) (by decide); k_whole; intro _ _ _ _ _ _ _ _ _; (try dsimp only); (try k_fold)))
  k_with "m enterC0" => (k_extra "m around"; k_extra "m fill"; refine wpAny_call ?_; k_dflt (refine' enterC0 (by assumption) (by assumption) (by assumption) (by k_is) (by k_is) (by exact BindsTo.of_eq rfl) (by rfl) (by decide) ?_ (by exact rfl) (by exact rfl) (by exact rfl); k_whole; intro _ _ _ _ _ _ _ _ _ _ _; (try dsimp only); (try k_fold)))
  k_with "m cell1" => ((rename CellsAre _ _ _ => mY'); (with_unfolding_all have mY2' := CellsAre.one mY'); (obtain ⟨_, me', _⟩ := mY2'); (subst me'); clear mY')
  k_with "m cell2" => ((rename CellsAre _ _ _ => mY'); (with_unfolding_all have mY2' := CellsAre.two mY'); (obtain ⟨_, _, me', _, _⟩ := mY2'); (subst me'); clear mY')
  k_with "m tup" => first | assumption | exact fr_tup (by with_reducible assumption) (by with_reducible assumption) | exact News.isTup (by with_reducible assumption) (by news_mem)
  k_with "m list" => first | assumption | exact fr_list (by with_reducible assumption) (by with_reducible assumption) | exact News.isList (by with_reducible assumption) (by news_mem)
  k_with "call builtin:len" => (k_here; (with_reducible show wpAny _ _ (call (Value.builtin "len") [Value.ref _]) _ _ _); k_dflt first | (refine' len_tup (by k_extra "m tup") (by first | assumption | (with_reducible decide) | omega | (simp only [List.length_append, List.length_cons, List.length_nil]; first | decide | omega)) ?_; k_whole; intro _ _) | (refine' len_lst (by k_extra "m list") (by first | assumption | (with_reducible decide) | omega | (simp only [List.length_append, List.length_cons, List.length_nil]; first | decide | omega)) ?_; k_whole; intro _ _))
  k_with "subscriptTail" => (k_here; (with_reducible show wpAny _ _ (subscriptTail _ _ (Value.ref _) (Value.int (-1) _)) _ _ _); (with_unfolding_all refine' tup_last (by k_extra "m tup") (by first | assumption | rfl) ?_ (by with_unfolding_all rfl); k_whole))
  k_with "subscriptTail" => (k_here; (with_reducible show wpAny _ _ (subscriptTail _ _ (Value.ref _) (Value.int _ _)) _ _ _); (with_unfolding_all apply tup_at); (case ht => k_extra "m tup"); (first | ((case hk => with_unfolding_all rfl); (case hx => first | assumption | rfl)) | ((case hx => assumption); (case hk => omega))); (case hf => first | decide | omega); (case hs => with_unfolding_all rfl); k_whole)
  k_with "subscriptTail" => (k_here; (with_reducible show wpAny _ _ (subscriptTail _ _ (Value.ref _) (Value.int _ _)) _ _ _); (with_unfolding_all apply list_at); (case ht => k_extra "m list"); (first | ((case hk => with_unfolding_all rfl); (case hx => first | assumption | rfl)) | ((case hx => assumption); (case hk => omega))); (case hf => first | decide | omega); (case hs => with_unfolding_all rfl); k_whole)
  k_with "k inst" => exact instAt_base (by assumption) (by assumption) (by assumption)
  k_with "m stays" => first | with_reducible assumption | exact stays_fr (by with_reducible assumption) (by with_reducible assumption)
  k_with "m calm" => exact Calm.le (by assumption) (by decide)
  k_with "m kept" => ((rename Fr _ _ _ _ => kF'); (rename News _ _ _ _ => kN'); (refine kept_of (by with_reducible assumption) kF' kN' ?_); clear kF' kN'; intro _ _; (try dsimp only); (try k_fold))
  k_with "eval Name" => ((with_reducible show wpAny _ _ (eval (Expr.Name _ _) (compEnvC _ _ _ _)) _ _ _); k_dflt first | (apply comp_local; (case F => with_reducible assumption); (case hk => rfl); (case hl => with_unfolding_all rfl); (case hd => decide); (case hm => first | with_reducible assumption | with_unfolding_all rfl); k_whole) | (apply comp_cell; (case F => with_reducible assumption); (case hk => rfl); (case hl => with_unfolding_all rfl); (case hd => decide); (case hc => with_unfolding_all rfl); (case ho => assumption); (case hv => with_reducible assumption); k_whole) | (apply comp_builtin; (case F => with_reducible assumption); (case T => with_reducible assumption); (case k => with_reducible assumption); (case hg => rfl); (case hb => rfl); (case hk => rfl); (case hx => with_unfolding_all rfl); (case hd => decide); (case h2 => first | exact mb_max (by with_reducible assumption) | exact mb_min (by with_reducible assumption)); (case h1 => first | exact mg_max (by with_reducible assumption) | exact mg_min (by with_reducible assumption)); k_whole))
  k_with "call builtin:max" => ((with_reducible show wpAny _ _ (call (Value.builtin _) [Value.int _ _, Value.int _ _]) _ _ _); k_dflt (refine' comp_max (by with_reducible assumption) (by first | exact Calm.hh (by assumption) | with_unfolding_all rfl) ?_; k_whole; intro _ _ _ _ _))
  k_with "call builtin:min" => ((with_reducible show wpAny _ _ (call (Value.builtin _) [Value.int _ _, Value.int _ _]) _ _ _); k_dflt (refine' comp_min (by with_reducible assumption) (by first | exact Calm.hh (by assumption) | with_unfolding_all rfl) ?_; k_whole; intro _ _ _ _ _))
  k_with "newTuple" => (k_dflt (refine' comp_tuple (by with_reducible assumption) ?_ (by rfl); k_whole; intro _ _ _ _))
  k_with "call type:tuple" => ((with_reducible show wpAny _ _ (call (Value.type _) [Value.ref _]) _ _ _); k_dflt (refine' tuple_of (by with_reducible assumption) (by with_reducible assumption) (by k_extra "m list") (by first | assumption | omega) ?_; k_whole; intro _ _ _ _ _ _))
  k_with "call ref" => (k_here; (with_reducible show wpAny _ _ (call (Value.ref 77) _) _ _ _); k_dflt (refine' least_spec (by assumption) (by k_extra "m stays") (by k_extra "m calm") (by k_extra "m tup") (by assumption) (by k_extra "m tup") ?_; intro _ _ _ _; k_extra "m kept"))
  k_with "call ref" => (k_here; (with_reducible show wpAny _ _ (call (Value.ref 84) _) _ _ _); k_dflt (refine' greatest_spec (by assumption) (by k_extra "m stays") (by k_extra "m calm") (by k_extra "m tup") (by assumption) (by k_extra "m tup") ?_; intro _ _ _ _; k_extra "m kept"))
  k_with "call ref" => (k_here; (with_reducible show wpAny _ _ (call (Value.ref 183) _) _ _ _); k_dflt (refine' dom_spec (by assumption) (by k_extra "m stays") (by k_extra "m calm") (by k_extra "m desk") (by assumption) (by assumption) ?_; intro _ _ _; k_extra "m kept"))
  k_with "call ref" => (k_here; (with_reducible show wpAny _ _ (call (Value.ref 197) _) _ _ _); k_dflt (refine' low_spec (by assumption) (by k_extra "m stays") (by k_extra "m calm") (by k_extra "m desk") (by assumption) (by assumption) (by k_extra "m tup") (by assumption) (by k_extra "m tup") ?_; intro _ _ _ _; k_extra "m kept"))
  k_with "call ref" => (k_here; (with_reducible show wpAny _ _ (call (Value.ref 204) _) _ _ _); k_dflt (refine' high_spec (by assumption) (by k_extra "m stays") (by k_extra "m calm") (by k_extra "m desk") (by assumption) (by assumption) (by k_extra "m tup") (by assumption) (by k_extra "m tup") ?_; intro _ _ _ _; k_extra "m kept"))
  k_with "call ref" => (k_here; (with_reducible show wpAny _ _ (call (Value.ref 89) _) _ _ _); k_dflt (refine' size_spec (by assumption) (by k_extra "m stays") (by k_extra "m calm") (by k_extra "m tup") (by first | assumption | exact Prs.mono (Fr.keep (by with_reducible assumption)) (by with_reducible assumption)) (by assumption) ?_; intro _ _ _ _; k_extra "m kept"))
  k_with "m prs" => first | with_reducible assumption | exact Prs.mono (Fr.keep (by with_reducible assumption)) (by with_reducible assumption)
  k_with "call ref" => (k_here; (with_reducible show wpAny _ _ (call (Value.ref 108) _) _ _ _); k_dflt (refine' upTo_spec (by assumption) (by k_extra "m stays") (by k_extra "m calm") (by k_extra "m tup") (by k_extra "m prs") (by assumption) ?_; intro _ _ _ kc dc; (obtain ⟨ac, vc, ec, tc, pc⟩ := dc); subst ec; revert kc ac vc tc pc; intro _ _ _ _ _; k_extra "m kept"))
  k_with "call ref" => (k_here; (with_reducible show wpAny _ _ (call (Value.ref 113) _) _ _ _); k_dflt (refine' fromOn_spec (by assumption) (by k_extra "m stays") (by k_extra "m calm") (by k_extra "m tup") (by k_extra "m prs") (by assumption) ?_; intro _ _ _ kc dc; (obtain ⟨ac, vc, ec, tc, pc⟩ := dc); subst ec; revert kc ac vc tc pc; intro _ _ _ _ _; k_extra "m kept"))
  k_with "call ref" => (k_here; (with_reducible show wpAny _ _ (call (Value.ref 120) _) _ _ _); k_dflt (refine' without_spec (by assumption) (by k_extra "m stays") (by k_extra "m calm") (by k_extra "m tup") (by k_extra "m prs") (by assumption) ?_; intro _ _ _ kc dc; (obtain ⟨ac, vc, ec, tc, pc⟩ := dc); subst ec; revert kc ac vc tc pc; intro _ _ _ _ _; k_extra "m kept"))
  k_with "call ref" => (k_here; (with_reducible show wpAny _ _ (call (Value.ref 141) _) _ _ _); k_dflt (refine' struck_spec (by assumption) (by k_extra "m stays") (by k_extra "m calm") (by assumption) (by first | assumption | exact LitAt.mono (Fr.keep (by with_reducible assumption)) (by with_reducible assumption)) (by k_extra "m tup") (by k_extra "m prs") (by assumption) ?_; intro _ _ _ kc dc; (obtain ⟨ac, vc, ec, tc, pc⟩ := dc); subst ec; revert kc ac vc tc pc; intro _ _ _ _ _; k_extra "m kept"))
  k_with "m desk" => first | assumption | exact DeskR.mono (Fr.keep (by with_reducible assumption)) (by assumption) | exact DeskR.mono (by with_reducible assumption) (by assumption)
  k_with "call ref" => (k_here; (with_reducible show wpAny _ _ (call (Value.ref 232) _) _ _ _); k_dflt (refine' width_spec (by assumption) (by k_extra "m stays") (by k_extra "m calm") (by k_extra "m desk") (by assumption) (by assumption) (by k_extra "m tup") (by k_extra "m prs") (by assumption) ?_; intro _ _ _ _; k_extra "m kept"))
  k_with "call ref" => (k_here; (with_reducible show wpAny _ _ (call (Value.ref 218) _) _ _ _); k_dflt (refine' is_fixed_spec (by assumption) (by k_extra "m stays") (by k_extra "m calm") (by k_extra "m desk") (by assumption) (by assumption) (by k_extra "m tup") (by k_extra "m prs") (by assumption) (by assumption) ?_; intro _ _ _; k_extra "m kept"))
  k_with "m in" => (repeat' (first | exact List.forall_mem_nil _ | (refine in_cons ?_ ?_; (with_unfolding_all rfl))))
  k_with "m out" => (intro my' mhy'; (repeat' first | (with_reducible exact rfl) | refine out_mem mhy' (by with_reducible k_extra "m mem") ?_ | refine out_rmem mhy' (by with_reducible k_extra "m mem") ?_ | refine out_same mhy' ?_ _ (by rfl) | refine out_ov mhy' ?_ _ (by kernel_rfl)))
  k_with "m sub" => (intro mp' mhp'; (simp only [List.mem_cons, List.not_mem_nil, or_false, List.mem_append] at mhp' ⊢); (first | exact mhp' | (rcases mhp' with mhp' | mhp' <;> simp [mhp']) | simp [mhp']))
  k_with "m for range" => (k_here; k_dflt (refine' for_rangeF (by with_reducible assumption) (by with_unfolding_all rfl) ?_ (by rfl) (by with_unfolding_all rfl) (by rfl) (by (intro _; rfl)); k_whole))
  k_with "m for tup" => (k_here; k_dflt (refine' for_tupF (by with_reducible assumption) (by with_unfolding_all rfl) ?_ (by rfl) (by with_unfolding_all rfl) (by rfl) (by (intro _; rfl)); k_whole))
  k_with "m for pairs" => (k_here; k_dflt (refine' for_pairsF (by with_reducible assumption) (by with_unfolding_all rfl) ?_ (by rfl) (by with_unfolding_all rfl) (by with_unfolding_all rfl) (by rfl) (by (intro _; rfl)); k_whole))
  k_with "call ref" => (k_here; (with_reducible show wpAny _ _ (call (Value.ref 56) _) _ _ _); k_dflt (refine' median_spec (by assumption) (by k_extra "m stays") (by k_extra "m calm") (by k_extra "m desk") (by assumption) (by assumption) (by k_extra "m tup") (by k_extra "m prs") (by assumption) (by assumption) ?_; intro _ _ _ _; k_extra "m kept"))
  k_with "m map" => first | assumption | exact fr_map (by with_reducible assumption) (by with_reducible assumption)
  k_with "m br" => first | assumption | exact BrR.mono (Fr.keep (by with_reducible assumption)) (by assumption) | exact BrR.mono (by with_reducible assumption) (by assumption)
  k_with "call ref" => (k_here; (with_reducible show wpAny _ _ (call (Value.ref 42) _) _ _ _); k_dflt (refine' rank_spec (by assumption) (by k_extra "m stays") (by k_extra "m calm") (by k_extra "m desk") (by k_extra "m br") (by assumption) (by assumption) (by assumption) (by assumption) (by k_extra "m tup") (by k_extra "m prs") (by assumption) (by assumption) ?_; intro _ _ _ _ _ kc fc oc; (rename Fr _ _ _ _ => kF'); (rename News _ _ _ _ => kN'); (have F' := Fr.keeps kF' kc); (have N' := news_fresh kF' kN' kc fc oc); clear kF' kN'; revert kc fc oc F' N'; intro _ _ _ _ _; (try dsimp only); (try k_fold)))
  k_with "m vars" => first | assumption | exact VarsAt.mono (Fr.keep (by with_reducible assumption)) (by assumption) | exact VarsAt.mono (by with_reducible assumption) (by assumption)
  k_with "call ref" => (k_here; (with_reducible show wpAny _ _ (call (Value.ref 49) _) _ _ _); k_dflt (refine' next_spec' (by assumption) (by k_extra "m stays") (by k_extra "m calm") (by k_extra "m desk") (by k_extra "m br") (by assumption) (by k_extra "m vars") (by assumption) (by assumption) (by assumption) (by assumption) (by assumption) ?_; intro _ _ _ _; k_extra "m kept"))
  k_with "call ref" => (k_here; (with_reducible show wpAny _ _ (call (Value.ref 63) _) _ _ _); k_dflt (refine' choose_spec (by assumption) (by k_extra "m stays") (by k_extra "m calm") (by k_extra "m desk") (by k_extra "m br") (by assumption) (by k_extra "m vars") (by assumption) (by assumption) (by assumption) (by assumption) ?_; intro _ _ _ _ _; k_extra "m kept"))
  k_with "m unit" => first | exact Calm.u1 (by with_reducible assumption)
  k_with "m prs0" => first | exact Prs.mono (Fr.keep (by with_reducible assumption)) (by with_reducible assumption) | with_reducible assumption | exact prs_nil | k_extra "m prs"
  k_with "compareOp Eq ref ref" => (k_here; k_dflt (refine' eq_doms (by k_extra "m tup") (by k_extra "m prs0") (by k_extra "m tup") (by k_extra "m prs0") (by k_extra "m unit") ?_; k_whole))
  k_with "compareOp NotEq ref ref" => (k_here; k_dflt first | (apply ne_nil; (case hy => k_extra "m list"); (case hx => k_extra "m list"); (case hu => exact Calm.u (by with_reducible assumption)); k_whole) | (apply ne_doms; (case hx => k_extra "m tup"); (case px => k_extra "m prs0"); (case hy => k_extra "m tup"); (case py => k_extra "m prs0"); (case hu => k_extra "m unit"); k_whole))
  k_with "call builtin:list.append" => (k_here; (with_reducible show wpAny _ _ (call (Value.builtin _) [Value.ref _, _]) _ _ _); k_dflt (refine' append_L (by k_asm) (by k_asm) (by k_upd) (by first | assumption | omega | (simp only [List.length_append, List.length_cons, List.length_nil]; omega)) ?_; k_whole); intro _ _ N'; (try dsimp only [List.nil_append, List.cons_append] at N'); revert N'; intro _; (try k_sweep))
  k_with "m enter" => (k_extra "m around"; k_extra "m fill"; refine wpAny_call ?_; k_dflt (refine' enter _ (by assumption) (by assumption) (by assumption) (by assumption) (by k_is) (by k_is) (by exact BindsTo.of_eq rfl) (by exact locs rfl) ?_ (by exact rfl) (by exact rfl) (by exact rfl) (by decide); k_whole; intro _ _ _ _ _ _ _ _ _ _ _ _ _ _; (try dsimp only); (try k_fold)))
  k_with "setItem ref int" => (k_here; k_dflt (apply set_L; (case F => k_asm); (case N => k_asm); (case U => k_upd); (case hx => assumption); (case hz => assumption); k_whole); intro _ _ N'; (try dsimp only [List.nil_append, List.cons_append] at N'); revert N'; intro _)
  k_with "setItem ref int" => (k_here; k_dflt (refine' setD_L (by k_asm) (by k_asm) (by k_updF) (by assumption) (by assumption) ?_; k_whole); intro _ _ _ _ _ N'; (try dsimp only [List.nil_append, List.cons_append] at N'); revert N'; intro _)
  k_with "call builtin:list.pop" => (k_here; (with_reducible show wpAny _ _ (call (Value.builtin _) [Value.ref _]) _ _ _); k_dflt (apply pop_L; (case F => k_asm); (case N => k_asm); (case U => k_upd); (case hz => assumption); k_whole); intro _ _ N'; (try dsimp only [List.nil_append, List.cons_append] at N'); revert N'; intro _)
  k_with "m cls" => first | (simp only [ne_eq, Value.type.injEq, reduceCtorEq, not_false_eq_true]; done) | (simp; done) | ((rename Obj.cls _ = Value.type "dict" => hq'); rw [hq']; simp; done)
  k_with "k ne" => first | (refine neN ?_; (try dsimp only); first | k_extra "m ne0" | omega) | exact news_ne (by with_reducible assumption) (by k_mem) (by k_mem) (by k_extra "m cls")
  k_with "k all" => exact allLt_ne (by assumption)
  k_with "m own" => (intro _ _; k_ownIn)
  k_with "m tup" => first | assumption | exact fr_tup (by with_reducible assumption) (by with_reducible assumption) | exact News.isTup (by with_reducible assumption) (by news_mem) | exact InPn.tup (by with_reducible assumption) (by with_reducible assumption) (by with_reducible assumption) (by k_extra "m own")
  k_with "m prs0" => first | exact Prs.mono (Fr.keep (by with_reducible assumption)) (by with_reducible assumption) | with_reducible assumption | exact prs_nil | exact InPn.prs (by with_reducible assumption) (by with_reducible assumption) (by with_reducible assumption) (by k_extra "m own") | k_extra "m prs"
  k_with "m off" => (repeat' first | exact List.forall_mem_nil _ | (refine in_cons ?_ ?_; k_ne))
  k_with "m offall" => (repeat' first | exact List.forall_mem_nil _ | (refine in_cons ?_ ?_; k_all))
  k_with "k inst" => exact instAt_mixed (by assumption) (by assumption) (by assumption) (by k_mem)
  k_with "m full" => first | assumption | exact FullTups.mono (Fr.keep (by with_reducible assumption)) (by assumption)
  k_with "compareOp In ref ref" => (k_here; k_dflt (refine' in_firsts (by k_extra "m list") (by k_extra "m full") (by k_extra "m tup") (by k_extra "m unit") ?_; k_whole))
  k_with "m slice" => first | (apply slice_upto; (case F => k_asm); (case N => k_asm); (case hl => k_extra "m list"); (case hz => first | assumption | omega); (case hk => assumption); (case hj => assumption); (case hs => with_unfolding_all rfl); k_whole) | (apply slice_from; (case F => k_asm); (case N => k_asm); (case hl => k_extra "m list"); (case hz => first | assumption | omega); (case hk => assumption); (case hj => assumption); (case hs => with_unfolding_all rfl); k_whole)
  k_with "subscriptTail Attribute Slice ref ref" => (k_here; k_dflt (k_extra "m slice"); intro _ _ _ _ l'; (k_lt l'); revert l'; intro _; (try k_sweep))
  k_with "subscriptTail Name Slice ref ref" => (k_here; k_dflt (k_extra "m slice"); intro _ _ _ _ l'; (k_lt l'); revert l'; intro _; (try k_sweep))
  k_with "exec While Compare" => (k_here; k_dflt (refine' while_src (by with_reducible assumption) (by passes_own) ?_))
  k_with "call ref" => (k_here; (with_reducible show wpAny _ _ (call (Value.ref 309) _) _ _ _); k_dflt (refine' far_spec (by assumption) (by k_extra "m stays") (by k_extra "m calm") ?_; intro _ _ _ _; k_extra "m kept"))
  k_with "call ref" => (k_here; (with_reducible show wpAny _ _ (call (Value.ref 328) _) _ _ _); k_dflt (refine' many_spec (by assumption) (by k_extra "m stays") (by k_extra "m calm") (by k_extra "m list") (by k_extra "m prs") (by assumption) ?_; intro _ _ _ _; k_extra "m kept"))
  k_with "call ref" => (k_here; (with_reducible show wpAny _ _ (call (Value.ref 335) _) _ _ _); k_dflt (refine' half_spec (by assumption) (by k_extra "m stays") (by k_extra "m calm") (by k_extra "m list") (by k_extra "m prs") (by assumption) ?_; intro _ _ _; k_extra "m kept"))
  k_with "call ref" => (k_here; (with_reducible show wpAny _ _ (call (Value.ref 316) _) _ _ _); (rename Fr _ _ _ _ => kF'); (rename News _ _ _ _ => kN'); k_dflt (apply draw_spec; (case C => assumption); (case hB => k_extra "m stays"); (case hA => k_extra "m calm"); (case hm => exact hm_one kN' (by k_mem) (by with_reducible assumption)); (case hbo => assumption); (case hnm => assumption); (case hcl => k_extra "m list"); (case hcb => assumption); (case hci => assumption); (case hcz => assumption); (case hmany => first | assumption | omega | (simp only [Int.reduceToNat]; omega) | decide); (case hnb => omega); intro hc tkc oc rc tc kc ec bc r0c r1c; (try simp only [Int.reduceToNat] at r1c); (rename Obj.cls _ = Value.type "dict" => hold'); (have FN' := fr_upd kF' kN' (by k_updF) kc ec); (obtain ⟨F', N'⟩ := FN'); clear kF' kN' hold'; (have dcls' := BagIs.cls bc); (try dsimp only at N'); revert hc tkc oc rc tc kc ec bc r0c r1c F' N' dcls'; intro _ _ _ _ _ _ _ _ _ _ _ _ _; (try dsimp only); (try k_fold)))
  k_with "m ints" => (repeat' (first | exact List.forall_mem_nil _ | (refine (in_cons (⟨_, _, rfl, by (try dsimp only); (try simp only [Int.reduceToNat]); omega⟩) (?_)))))
  k_with "subscriptTail" => (k_here; (with_reducible show wpAny _ _ (subscriptTail _ _ (Value.ref _) (Value.int _ _)) _ _ _); first | (apply tup_pick (fun n => 0 ≤ n ∧ n ≤ 10 ^ 15); (case ht => exact News.isTup (by with_reducible assumption) (by k_mem)); (case h0 => assumption); (case h1 => (simp only [List.length_cons, List.length_nil]; omega)); (case hz => (simp only [List.length_cons, List.length_nil]; omega)); (case hall => k_extra "m ints"); k_whole; intro _ _ px; (have px1 := px.1); (have px2 := px.2); clear px; revert px1 px2; intro _ _) | (apply tup_pick (fun n => -(10 ^ 30) ≤ n ∧ n ≤ 10 ^ 30); (case ht => exact News.isTup (by with_reducible assumption) (by k_mem)); (case h0 => assumption); (case h1 => (simp only [List.length_cons, List.length_nil]; omega)); (case hz => (simp only [List.length_cons, List.length_nil]; omega)); (case hall => k_extra "m ints"); k_whole; intro _ _ px; (have px1 := px.1); (have px2 := px.2); clear px; revert px1 px2; intro _ _))
  k_with "newTuple" => (k_here; k_dflt (refine' newTuple_L (by k_asm) (by k_asm) ?_ (by size_fits); k_whole); intro _ _ _ _ l1; (k_lt l1); revert l1; intro _; (try k_sweep))
  k_with "m om" => ((try simp only [Int.reduceToNat]); omega)
  trivial
section
theorem off80 : True := by
  w_top off
  trivial
/-! ## order of lists of one length -/
open PySem.SeqAt in
section
open AutoSeq1 (wpAny_loadPart') in
open MeetsSeq MeetsSeq2 MeetsSeq3 in
theorem list_lt_loop (l b : Addr) (items items2 : Array Value) (n n2 : Nat) (dd dd2 : Option Addr) (sl sl2 : Array (Option Value)) (hsz : items.size = items2.size) (e lt : Nat → Bool) (k : Nat) :
    ∀ i : Nat, items.size - i = k → Meets (Builtin.«list.__eq__.loop» ⟨[.ref l, .ref b, rawInt i, rawInt 0], []⟩)
      (fun A R s => s.heap.get? l = some { cls := .type "list", dict := dd, data := .seq items n, slots := sl } ∧ s.heap.get? b = some { cls := .type "list", dict := dd2, data := .seq items2 n2, slots := sl2 } ∧
        (∀ j (h1 : j < items.size) (h2 : j < items2.size), EqAt A.in1 s items[j] items2[j] (e j)) ∧ (∀ j (h1 : j < items.size) (h2 : j < items2.size), e j = false → LtAt A.in1 s items[j] items2[j] (lt j)) ∧
        R (.ok (.ret (.bool (lexOf e lt ((List.range items.size).drop i) false)))) s) := by
  induction k with
  | zero =>
    intro i hk prog w A R s h
    obtain ⟨hp, g, d, tk, os⟩ := s; obtain ⟨hl, hb, he, hlt', h⟩ := h
    wp_walk using wpAny_loadPart' hl, wpAny_loadPart' hb
    have hi1 : items[((i : Nat) : Int).toNat]? = none := by simp; omega
    have hi2 : items2[((i : Nat) : Int).toNat]? = none := by simp; omega
    have hd : (List.range items.size).drop i = [] := by simp; omega
    rw [hd] at h
    rw [hi1, hi2]
    wp_walk using wpAny_loadPart' hl, wpAny_loadPart' hb
    show R (.ok (.ret (.bool (decide (items.size < items2.size))))) _
    rw [hsz]
    simpa [lexOf] using h
  | succ k ih =>
    intro i hk prog w A R s h
    obtain ⟨hp, g, d, tk, os⟩ := s; obtain ⟨hl, hb, he, hlt', h⟩ := h
    wp_walk using wpAny_loadPart' hl, wpAny_loadPart' hb
    have hlt : i < items.size := by omega
    have hlt2 : i < items2.size := by omega
    have hi1 : items[((i : Nat) : Int).toNat]? = some items[i] := by simp [hlt]
    have hi2 : items2[((i : Nat) : Int).toNat]? = some items2[i] := by simp [hlt2]
    have hd : (List.range items.size).drop i = i :: (List.range items.size).drop (i + 1) := by simp [List.drop_eq_getElem_cons, hlt]
    have hc : ((i : Int) + 1) = ((i + 1 : Nat) : Int) := by push_cast; rfl
    rw [hd, lexOf] at h
    rw [hi1, hi2]
    refine wpAny_bind (he i hlt hlt2 prog w _ _ ?_)
    cases hb' : e i with
    | true =>
      rw [hb', if_pos rfl] at h
      wp_walk
      rw [hc]
      exact ⟨plainId_quiet plain_eq_loop _, codeAny_builtin entry_eq_loop (by
        rw [Around.under_plainId plain_eq_loop _]
        exact ih (i + 1) (by omega) prog w A R _ ⟨hl, hb, he, hlt', h⟩)⟩
    | false =>
      rw [hb', if_neg Bool.false_ne_true] at h
      wp_walk using wpAny_loadPart' hl, wpAny_loadPart' hb
      rw [hi1, hi2]
      refine wpAny_bind (hlt' i hlt hlt2 hb' prog w _ _ ?_)
      wp_walk
      exact h
open AutoSeq1 (wpAny_loadPart') in
open MeetsSeq MeetsSeq2 MeetsSeq3 in
theorem list_ltAt (l b : Addr) (items items2 : Array Value) (n n2 : Nat) (dd dd2 : Option Addr) (sl sl2 : Array (Option Value)) (hsz : items.size = items2.size) (e lt : Nat → Bool) :
    Meets (Builtin.«list.__lt__» ⟨[.ref l, .ref b], []⟩)
      (fun A R s => s.heap.get? l = some { cls := .type "list", dict := dd, data := .seq items n, slots := sl } ∧ s.heap.get? b = some { cls := .type "list", dict := dd2, data := .seq items2 n2, slots := sl2 } ∧
        (∀ j (h1 : j < items.size) (h2 : j < items2.size), EqAt A.in1 s items[j] items2[j] (e j)) ∧ (∀ j (h1 : j < items.size) (h2 : j < items2.size), e j = false → LtAt A.in1 s items[j] items2[j] (lt j)) ∧
        R (.ok (.ret (.bool (lexOf e lt (List.range items.size) false)))) s) := by
  intro prog w A R s h
  obtain ⟨hp, g, d, tk, os⟩ := s; obtain ⟨hl, hb, he, hlt', h⟩ := h
  have f3 := AutoSeq1.sub_list_list
  wp_walk using wpAny_loadPart' hl, wpAny_loadPart' hb
  exact ⟨plainId_quiet plain_eq_loop _, codeAny_builtin entry_eq_loop (by
    rw [Around.under_plainId plain_eq_loop _]
    exact list_lt_loop l b items items2 n n2 dd dd2 sl sl2 hsz e lt _ 0 rfl prog w A R _ ⟨hl, hb, he, hlt', by simpa using h⟩)⟩
theorem LtAt.lists {A : Around} {s : Shared} {l b : Addr} {items items2 : Array Value} {e lt : Nat → Bool} (hl : s.heap.IsList l items) (hb : s.heap.IsList b items2) (hsz : items.size = items2.size) (hu : A.units < cLine)
    (he : ∀ j (h1 : j < items.size) (h2 : j < items2.size), EqAt A.in1 s items[j] items2[j] (e j)) (hlt : ∀ j (h1 : j < items.size) (h2 : j < items2.size), e j = false → LtAt A.in1 s items[j] items2[j] (lt j)) :
    LtAt A s (.ref l) (.ref b) (lexOf e lt (List.range items.size) false) := fun prog w E Q h => by
  obtain ⟨⟨cls, dd, data, sl⟩, ho, hc, n, hd⟩ := id hl
  obtain ⟨⟨cls2, dd2, data2, sl2⟩, ho2, hc2, n2, hd2⟩ := id hb
  simp only at hc hd hc2 hd2
  subst hc hd hc2 hd2
  exact richCompare_meets_room (op := .Lt) ⟨_, ho, rfl⟩ ⟨_, ho2, rfl⟩ PySem.F.slot_list_lt PySem.F.entry_list_lt (PySem.F.args_list_lt_2 _ _) (list_ltAt l b items items2 n n2 dd dd2 sl sl2 hsz e lt)
    ⟨ho, ho2, he, hlt, show Value.bool _ ≠ Value.notImplemented ∧ Q (.bool _) s from ⟨(fun x => nomatch x), h⟩⟩ hu
end

end
section
theorem off82 : True := by
  w_top off
  trivial
/-! ## the least of a list, by an order that the heap gives -/
section
variable {prog : Program} {w : World} {A : Around} {E : Value → Shared → Prop} {s : Shared}
noncomputable def CmpAt (A : Around) (H0 : Heap) (vs : List Value) (bt : Nat → Nat → Bool) : Prop :=
  ∀ i j vi vj (s : Shared), Stays H0 s.heap → vs[i]? = some vi → vs[j]? = some vj → LtAt A s vi vj (bt i j)
theorem stays_but1 {H0 h h' : Heap} {I : Nat} (k : Stays H0 h) (hI : H0.get? I = none) (k2 : ∀ (b : Nat) o, b ≠ I → h.get? b = some o → h'.get? b = some o) : Stays H0 h' := fun b o e => k2 b o (fun q => by rw [q, hI] at e; cases e) (k b o e)
theorem min_turns {l I S : Nat} {vs : List Value} {R : Result → Shared → Prop} {H0 : Heap} {bt : Nat → Nat → Bool} (hh : A.handled = none) (hl : H0.IsList l vs.toArray) (hlI : l ≠ I) (hSI : S ≠ I) (hI0 : H0.get? I = none) (hS0 : H0.get? S = none)
    (hcmp : CmpAt A.in1 H0 vs bt)
    (hR : ∀ v h' tk, vs[argBest bt (vs.length - 1)]? = some v → Stays H0 h' → R (.ok (.ret v)) { s with heap := h', toks := tk }) :
    ∀ (k j : Nat) (h : Heap) (tk : Nat) (vb : Value) (c : Nat), vs.length - (j + 1) = k → j + 1 ≤ vs.length → Stays H0 h → h.IsListIter I l (j + 1) → vs[argBest bt j]? = some vb → h.get? S = some (lstObj [vb, vb] c) →
      codeAny (model prog w) A (.builtin "min.loop" ⟨[.ref I, .none, .ref S], []⟩) R { s with heap := h, toks := tk } := by
  have hname : (toString "min" ++ toString ".loop" : String) = "min.loop" := by decide
  have W := Walks.list (prog := prog) (w := w) (A := A.in1) hh I l hlI vs.toArray
  have hsz : vs.toArray.size = vs.length := List.size_toArray ..
  intro k
  induction k with
  | zero =>
    intro j h tk vb c hk hj hst hit hvb hS
    have hin : j + 1 = vs.length := by omega
    refine codeAny_builtin PySem.F.entry_min_loop ?_
    rw [Around.under_plainId PySem.F.plain_min_loop _]
    show wpAny _ A.in1 (seqItems? (.ref S) >>= _) _ _ _
    refine wpAny_bind (wpAny_seqItems hS rfl ?_)
    show wpAny _ A.in1 (tryCatch (pyNext (.ref I)) _ >>= _) _ _ _
    refine wpAny_bind (wpAny_tryCatch (W.done _ _ _ ⟨by rw [hsz, ← hin]; exact hit, isList_mono hst hl⟩ fun h' tk' hk' => ?_))
    have k1 := stays_but1 hst hI0 fun b o hb e => hk' b o (by simpa using hb) e
    have hS' := hk' S _ (by simpa using hSI) hS
    show wpAny _ A.in1 (updateSeq S (fun _ => #[]) >>= _) _ _ _
    refine wpAny_bind ?_
    refine wpAny_updateSeq hS' rfl (wpAny_bind (wpAny_letGo (wpAny_pure ?_)))
    refine hR vb _ _ ?_ (stays_but1 k1 hS0 fun b o hb e => (Heap.get?_update_other _ _ (Ne.symm hb)).trans e)
    rw [← hin]; exact hvb
  | succ k ih =>
    intro j h tk vb c hk hj hst hit hvb hS
    have hlt : j + 1 < vs.length := by omega
    refine codeAny_builtin PySem.F.entry_min_loop ?_
    rw [Around.under_plainId PySem.F.plain_min_loop _]
    show wpAny _ A.in1 (seqItems? (.ref S) >>= _) _ _ _
    refine wpAny_bind (wpAny_seqItems hS rfl ?_)
    show wpAny _ A.in1 (tryCatch (pyNext (.ref I)) _ >>= _) _ _ _
    refine wpAny_bind (wpAny_tryCatch (W.item (j + 1) _ _ _ (by rw [hsz]; exact hlt) ⟨hit, isList_mono hst hl⟩ fun v h' tk' hP hst' hk' => ?_))
    have hv : vs[j + 1]? = some v := by simpa using hP
    have k1 := stays_but1 hst hI0 fun b o hb e => hk' b o (by simpa using hb) e
    have hS' := hk' S _ (by simpa using hSI) hS
    show wpAny _ A.in1 (tryCatch (holding [v, v] (richCompare .Lt v vb >>= _)) _ >>= _) _ _ _
    refine wpAny_bind (wpAny_tryCatch (wpAny_holding (wpAny_bind (hcmp (j + 1) (argBest bt j) v vb _ k1 hv hvb prog w _ _ ?_))))
    refine wpAny_bind (wpAny_holding (wpAny_truthy_bool ?_))
    refine wpAny_bind (wpAny_letGo (wpAny_pure ?_))
    cases hb : bt (j + 1) (argBest bt j) with
    | true =>
      simp only [if_true]
      refine wpAny_bind ?_
      refine wpAny_updateSeq hS' rfl (wpAny_bind (wpAny_letGo ?_))
      rw [hname]
      refine wpAny_pure ⟨plainId_quiet PySem.F.plain_min_loop _, ih (j + 1) _ _ v _ (by omega) hlt (stays_but1 k1 hS0 fun b o hb e => (Heap.get?_update_other _ _ (Ne.symm hb)).trans e) ?_ (by simp only [argBest, hb, if_true]; exact hv) (Heap.get?_update_self _ hS' rfl)⟩
      exact hst'.1.at fun o e => (Heap.get?_update_other _ _ hSI).trans e
    | false =>
      simp only [Bool.false_eq_true, if_false]
      refine wpAny_bind (wpAny_letGo ?_)
      rw [hname]
      exact wpAny_pure ⟨plainId_quiet PySem.F.plain_min_loop _, ih (j + 1) _ _ vb c (by omega) hlt k1 hst'.1 (by simp only [argBest, hb, Bool.false_eq_true, if_false]; exact hvb) hS'⟩
theorem min_list {l : Addr} {vs : List Value} {bt : Nat → Nat → Bool} {Q : Value → Shared → Prop} (hh : A.handled = none) (hl : s.heap.IsList l vs.toArray) (hn : 0 < vs.length) (hcmp : CmpAt A.in1 s.heap vs bt)
    (hQ : ∀ v h' tk, vs[argBest bt (vs.length - 1)]? = some v → Stays s.heap h' → Q v { s with heap := h', toks := tk }) : wpAny (model prog w) A (call (.builtin "min") [.ref l]) Q E s := by
  have hname : (toString "min" ++ toString ".loop" : String) = "min.loop" := by decide
  obtain ⟨ol, hol, _⟩ := id hl
  have hll : @LT.lt Nat _ l s.heap.objs.size := Heap.lt_size hol
  refine call_function_tree PySem.F.kind_min PySem.F.plain_min PySem.F.entry_min (PySem.F.args_min1 _) ?_
  show wpAny _ A.in1 (Builtin.Builtins.bindParams "min" ["key", "default"] 0 ⟨[], []⟩ >>= _) _ _ s
  refine wpAny_bind (wpAny_of_eq (show Builtin.Builtins.bindParams "min" ["key", "default"] 0 ⟨[], []⟩ = pure [none, none] from rfl) ?_)
  refine wpAny_bind (wpAny_pure ?_)
  refine wpAny_bind (wpAny_pyIter_list hl ?_)
  refine wpAny_bind (wpAny_newObj_type ?_)
  rw [hname]
  have hz : (s.heap.push { cls := .type "list_iterator", data := .fields #[.ref l, .int 0 0] }).objs.size = s.heap.objs.size + 1 := Heap.size_push _ _
  have up : Stays s.heap ((s.heap.push { cls := .type "list_iterator", data := .fields #[.ref l, .int 0 0] }).push { cls := .type "list", data := .seq #[] }) := fun b o e => Heap.get?_push_of_some _ (Heap.get?_push_of_some _ e)
  have fresh : ∀ b : Nat, s.heap.objs.size ≤ b → s.heap.get? b = none := fun b hb => fresh_of_size hb
  have hlI : @Ne Nat l s.heap.objs.size := Nat.ne_of_lt hll
  have hSI : @Ne Nat (s.heap.push { cls := .type "list_iterator", data := .fields #[.ref l, .int 0 0] }).objs.size s.heap.objs.size := by rw [hz]; exact Nat.succ_ne_self _
  have gI : ((s.heap.push { cls := .type "list_iterator", data := .fields #[.ref l, .int 0 0] }).push { cls := .type "list", data := .seq #[] }).get? s.heap.objs.size = some { cls := .type "list_iterator", data := .fields #[.ref l, .int 0 0] } :=
    Heap.get?_push_of_some _ (Heap.get?_push_size _ rfl)
  have gS := Heap.get?_push_size (s.heap.push { cls := .type "list_iterator", data := .fields #[.ref l, .int 0 0] }) (o := { cls := .type "list", data := .seq #[] }) rfl
  have fI := fresh s.heap.objs.size (Nat.le_refl _)
  have fS := fresh (s.heap.push { cls := .type "list_iterator", data := .fields #[.ref l, .int 0 0] }).objs.size (by rw [hz]; exact Nat.le_succ _)
  generalize hHH : (s.heap.push { cls := .type "list_iterator", data := .fields #[.ref l, .int 0 0] }).push { cls := .type "list", data := .seq #[] } = HH at *
  generalize hSS : (s.heap.push { cls := .type "list_iterator", data := .fields #[.ref l, .int 0 0] }).objs.size = SS at *
  generalize hII : s.heap.objs.size = II at *
  have W := Walks.list (prog := prog) (w := w) (A := A.in1) hh II l hlI vs.toArray
  have hsz : vs.toArray.size = vs.length := List.size_toArray ..
  refine wpAny_pure ⟨plainId_quiet PySem.F.plain_min_loop _, ?_⟩
  refine codeAny_builtin PySem.F.entry_min_loop ?_
  rw [Around.under_plainId PySem.F.plain_min_loop _]
  show wpAny _ A.in1 (seqItems? (.ref SS) >>= _) _ _ _
  refine wpAny_bind (wpAny_seqItems gS rfl ?_)
  show wpAny _ A.in1 (tryCatch (pyNext (.ref II)) _ >>= _) _ _ _
  refine wpAny_bind (wpAny_tryCatch (W.item 0 _ _ _ (by rw [hsz]; exact hn) ⟨⟨_, gI, rfl, rfl⟩, isList_mono up hl⟩ fun v h' tk' hP hst' hk' => ?_))
  have hv : vs[0]? = some v := by simpa using hP
  have k1 := stays_but1 up fI fun b o hb e => hk' b o (by simpa using hb) e
  have hS' := hk' SS _ (by simpa using hSI) gS
  show wpAny _ A.in1 (updateSeq SS (fun _ => #[v, v]) >>= _) _ _ _
  refine wpAny_bind ?_
  refine wpAny_updateSeq hS' rfl ?_
  rw [hname]
  refine wpAny_pure ⟨plainId_quiet PySem.F.plain_min_loop _, min_turns (s := s) hh hl hlI hSI fI fS hcmp (fun v h' tk e k => hQ v h' tk e k) _ 0 _ _ v _ rfl hn (stays_but1 k1 fS fun b o hb e => (Heap.get?_update_other _ _ (Ne.symm hb)).trans e) ?_ hv (Heap.get?_update_self _ hS' rfl)⟩
  exact hst'.1.at fun o e => (Heap.get?_update_other _ _ hSI).trans e
end
/-! ## for place, x in enumerate(list) -/
noncomputable abbrev enumObj (it : Addr) (i : Int) (old : Value) : Obj := { cls := .type "enumerate", dict := none, data := .fields #[.none, .bool false, .ref it, rawInt i, .none, old], slots := #[] }
inductive EnumAt (g : Heap) (L e it l : Addr) (vs : List Value) (J : Nat → (PySem.Str → Option Value) → List (Addr × Obj) → Prop) (s₁ : Shared) (k : Nat) (s' : Shared) : Prop
  | mk (i : Nat) (h' : Heap) (tk : Nat) (m : PySem.Str → Option Value) (oe oit : Obj) (news : List (Addr × Obj)) (old : Value) (e1 : s' = { s₁ with heap := h', toks := tk }) (hi : i ≤ vs.length) (hk : k = vs.length + 1 - i) (j : J i m news) (he : IsEnum h' e it ((i : Nat) : Int) old) (hl : h'.IsListIter it l i) (F : Fr g L h' m) (N : News g L h' ((e, oe) :: (it, oit) :: news)) (ne : ∀ p ∈ news, @Ne Nat p.1 e ∧ @Ne Nat p.1 it) : EnumAt g L e it l vs J s₁ k s'
inductive ForEnumSrc (prog : Program) (w : World) (A : Around) (g : Heap) (L : Addr) (env : Env) (a b : PySem.Str) (body : List Stmt) (Q : Flow → Shared → Prop) (xv : Value) (s₁ : Shared) : Prop
  | mk (e it l : Nat) (oe oit : Obj) (vs : List Value) (J : Nat → (PySem.Str → Option Value) → List (Addr × Obj) → Prop) (m : PySem.Str → Option Value) (news : List (Addr × Obj)) (a0 : xv = .ref e) (a1 : e ≠ it) (a2 : IsEnum s₁.heap e it 0 .none) (a3 : s₁.heap.IsListIter it l 0) (a4 : g.IsList l vs.toArray) (a5 : Fr g L s₁.heap m) (a6 : News g L s₁.heap ((e, oe) :: (it, oit) :: news)) (a7 : ∀ p ∈ news, @Ne Nat p.1 e ∧ @Ne Nat p.1 it) (a8 : J 0 m news) (a9 : ∀ (i : Nat) v h tk m oe oit news t E', vs[i]? = some v → J i m news → Fr g L h (fun z => if z = b then some v else if z = a then some (.int (i : Int) t) else m z) → News g L h ((e, oe) :: (it, oit) :: news) → (∀ p ∈ news, @Ne Nat p.1 e ∧ @Ne Nat p.1 it) → wpAny (model prog w) A (execs body env) (ForPost g L [(e, oe), (it, oit)] (J (i + 1)) s₁ Q) E' { s₁ with heap := h, toks := tk }) (a10 : ∀ h tk m news, J vs.length m news → Fr g L h m → News g L h news → Q .next { s₁ with heap := h, toks := tk }) : ForEnumSrc prog w A g L env a b body Q xv s₁
section
variable {prog : Program} {w : World} {A : Around} {E : Value → Shared → Prop} {s : Shared} {g : Heap} {L : Addr} {env : Env} {iter : Expr} {body : List Stmt} {pos : Pos} {Q : Flow → Shared → Prop} {m₁ : PySem.Str → Option Value}
theorem for_enumF {a b : PySem.Str} {pa pb tp : Pos} {kk : Nat} (_F₁ : Fr g L s.heap m₁) (hh : A.handled = none)
    (h : wpAny (model prog w) A (eval iter env) (fun xv s₁ => ForEnumSrc prog w A g L env a b body Q xv s₁) E s)
    (hL : env.locals = L) (ha : env.kindOf a = some .local) (hb : env.kindOf b = some .local)
    (hp : (env.scope.kind == .class || (env.scope.kind == .module && env.locals != env.globals)) = false)
    (hs : ∀ x, foldedSetIterable iter env x = pure x) : wpAny (model prog w) A (exec (.For (.Tuple [.Name a pa, .Name b pb] kk tp) iter body [] pos) env) Q E s := by
  subst hL
  refine wpAny_For (wpAny_mono h (fun xv s₁ h₁ => ?_) fun _ _ e => e) hs
  obtain ⟨e, it, l, oe, oit, vs, J, m, news, rfl, hei, he, hit, hl, F, N, hne, hJ, turn, done⟩ := h₁
  have hsz : vs.toArray.size = vs.length := List.size_toArray ..
  have heL : e ≠ env.locals := (N _ (.head _)).2.1
  have hiL : it ≠ env.locals := (N _ (.tail _ (.head _))).2.1
  have heg : g.get? e = none := (N _ (.head _)).2.2
  have hig : g.get? it = none := (N _ (.tail _ (.head _))).2.2
  obtain ⟨ol, hol, _⟩ := id hl
  have hle : l ≠ e := fun q => by rw [q, heg] at hol; cases hol
  have hli : l ≠ it := fun q => by rw [q, hig] at hol; cases hol
  refine wpAny_pyIter_enum he ?_
  refine codeAny_forLoop_any
    (EnumAt g env.locals e it l vs J s₁) ?_ (vs.length + 1)
    ⟨0, s₁.heap, s₁.toks, m, oe, oit, news, .none, rfl, Nat.zero_le _, rfl, hJ, he, hit, F, N, hne⟩
  clear hJ he hit F N hne
  rintro k s' ⟨i, h', tk, m, oe, oit, news, old, rfl, hi, rfl, hJ, he, hit, F, N, hne⟩
  have hl' : h'.IsList l vs.toArray := isList_mono F.keep hl
  cases hv : vs.toArray[i]? with
  | none =>
    have hin : i = vs.length := by
      have := Array.getElem?_eq_none_iff.mp hv
      omega
    subst hin
    refine wpAny_pyNext_enum_end hh he hit hl' hv fun h₁ he₁ => wpAny_execs_nil ?_
    have k1 : ∀ (b : Nat) o, b ≠ it → h'.get? b = some o → h₁.get? b = some o := fun b o hb e => he₁ b o hb e
    exact done h₁ tk m news hJ (fr_but1 F k1 hiL hig) (news_but1 (fun q hq => N q (.tail _ (.tail _ hq))) k1 fun p hp => (hne p hp).2)
  | some v =>
    have hlt : i < vs.length := by
      have := (Array.getElem?_eq_some_iff.mp hv).1
      omega
    have hv' : vs[i]? = some v := by simpa using hv
    have heH : @LT.lt Nat _ e h'.objs.size := Heap.lt_size he
    obtain ⟨oi, hoi, _⟩ := id hit
    have hiH : @LT.lt Nat _ it h'.objs.size := Heap.lt_size hoi
    refine wpAny_pyNext_enum_item he hit hl' hv hei fun h₁ heo hit₁ ht₁ hz₁ hk₁ => ?_
    have k1 : ∀ (b : Nat) o, b ≠ e → b ≠ it → h'.get? b = some o → h₁.get? b = some o := fun b o h1 h2 x => hk₁ b o h1 h2 x
    refine wpAny_letOwnedTupleGo_enum heo fun h₂ he₂ hs₂ => ?_
    have k2 : ∀ (b : Nat) o, b ≠ e → h₁.get? b = some o → h₂.get? b = some o := fun b o hb x => hs₂.extBut b o hb x
    have ht₂ : IsTup h₂ h'.objs.size #[.int i tk, v] := ⟨_, k2 _ _ (Nat.ne_of_gt heH) ht₁, rfl, _, rfl⟩
    have up : ∀ (b : Nat) o, b ≠ e → b ≠ it → h'.get? b = some o → h₂.get? b = some o := fun b o h1 h2 x => k2 b o h1 (k1 b o h1 h2 x)
    have hn₂ : h₂.Ns env.locals m := F.ns.at' fun o x => up _ o (Ne.symm heL) (Ne.symm hiL) x
    refine assign_pair hh ht₂ ha hb hp hn₂ fun h₃ tk₃ hn₃ hk₃ => ?_
    have k3 : ∀ (c : Nat) o, c ≠ env.locals → h₂.get? c = some o → h₃.get? c = some o := fun c o hc x => hk₃ c o hc x
    obtain ⟨oi₁, hoi₁, hci₁, hdi₁⟩ := hit₁
    have hoi₃ : h₃.get? it = some oi₁ := k3 _ _ hiL (k2 _ _ (Ne.symm hei) hoi₁)
    have he₃ := k3 e _ heL he₂
    have F₃ : Fr g env.locals h₃ (fun z => if z = b then some v else if z = a then some (.int (i : Int) tk) else m z) := by
      refine ⟨hn₃, fun c o x => ?_, F.above⟩
      have h1 : @LT.lt Nat _ c g.objs.size := Heap.lt_size x
      have h2 : @LE.le Nat _ g.objs.size env.locals := F.above
      refine k3 c o (fun q => ?_) (up c o (fun q => by rw [q, heg] at x; cases x) (fun q => by rw [q, hig] at x; cases x) (F.keep c o x))
      rw [q] at h1; omega
    have N₃ : News g env.locals h₃ ((e, enumObj it ((i : Int) + 1) v) :: (it, oi₁) :: news) := by
      intro p hp
      rcases List.mem_cons.mp hp with rfl | hp
      · exact ⟨he₃, heL, heg⟩
      · rcases List.mem_cons.mp hp with rfl | hp
        · exact ⟨hoi₃, hiL, hig⟩
        · have y := N p (.tail _ (.tail _ hp))
          exact ⟨k3 _ _ y.2.1 (up _ _ (hne p hp).1 (hne p hp).2 y.1), y.2⟩
    refine wpAny_mono (turn i v h₃ tk₃ m _ oi₁ news tk _ hv' hJ F₃ N₃ hne) (fun f s₃ h₄ => ?_) fun _ _ x => x
    have fin : ForEnd g env.locals [(e, enumObj it ((i : Int) + 1) v), (it, oi₁)] (J (i + 1)) s₁ s₃ → ∃ m_1, m_1 < vs.length + 1 - i ∧ EnumAt g env.locals e it l vs J s₁ m_1 s₃ := by
      rintro ⟨hH, tk₄, m₄, news₄, nx, rfl, F₄, N₄, hown, hnx, hsep, hJ₄⟩
      have y1 := (N₄ _ (hown _ (.head _)))
      have y2 := (N₄ _ (hown _ (.tail _ (.head _))))
      refine ⟨vs.length + 1 - (i + 1), by omega, i + 1, hH, tk₄, m₄, enumObj it ((i : Int) + 1) v, oi₁, nx, v, rfl, by omega, rfl, hJ₄, ?_, ⟨oi₁, y2.1, hci₁, hdi₁⟩, F₄, ?_, fun p hp => ⟨hsep p hp _ (.head _), hsep p hp _ (.tail _ (.head _))⟩⟩
      · have : ((i + 1 : Nat) : Int) = (i : Int) + 1 := by push_cast; rfl
        rw [this]; exact y1.1
      · intro p hp
        rcases List.mem_cons.mp hp with rfl | hp
        · exact y1
        · rcases List.mem_cons.mp hp with rfl | hp
          · exact y2
          · exact N₄ p (hnx p hp)
    cases f with
    | next => exact fin h₄
    | cont => exact fin h₄
    | brk => exact h₄
    | ret v => exact h₄
theorem enum_call {l : Addr} {vs : List Value} {news : List (Addr × Obj)} {Q : Value → Shared → Prop} (F : Fr g L s.heap m₁) (N : News g L s.heap news) (hl : s.heap.IsList l vs.toArray)
    (h : ∀ h' (e it : Nat) oe oit, e ≠ it → IsEnum h' e it 0 .none → h'.IsListIter it l 0 → Fr g L h' m₁ → News g L h' ((e, oe) :: (it, oit) :: news) → (∀ p ∈ news, @Ne Nat p.1 e ∧ @Ne Nat p.1 it) → Q (.ref e) { s with heap := h' }) :
    wpAny (model prog w) A (call (.type "enumerate") [.ref l]) Q E s := by
  refine call_enumerate_list hl fun h' he hit hz hk => ?_
  obtain ⟨oi, hoi, hc, hd⟩ := hit
  have hlt : ∀ p ∈ news, @LT.lt Nat _ p.1 s.heap.objs.size := fun p hp => Heap.lt_size (N p hp).1
  have hL : @LT.lt Nat _ L s.heap.objs.size := F.ns.lt
  have F' := Fr.keeps F hk
  have fr : ∀ c : Nat, s.heap.objs.size ≤ c → @Ne Nat c L ∧ g.get? c = none := fun c hc => ⟨by omega, by
    cases q : g.get? c with
    | none => rfl
    | some o =>
      have h1 : @LT.lt Nat _ c s.heap.objs.size := Heap.lt_size (F.keep _ _ q)
      omega⟩
  refine h h' _ _ (enumObj s.heap.objs.size 0 .none) oi (Nat.succ_ne_self _) he ⟨oi, hoi, hc, hd⟩ F' (fun p hp => ?_) fun p hp => ⟨by have := hlt p hp; omega, by have := hlt p hp; omega⟩
  rcases List.mem_cons.mp hp with rfl | hp
  · exact ⟨he, fr _ (by omega)⟩
  · rcases List.mem_cons.mp hp with rfl | hp
    · exact ⟨hoi, fr _ (Nat.le_refl _)⟩
    · exact ⟨hk _ _ (N p hp).1, (N p hp).2⟩
end

end
theorem rows82 : True := by
  k_with "m for enum" => (k_here; k_dflt (refine' for_enumF (by with_reducible assumption) (by with_unfolding_all rfl) ?_ (by rfl) (by with_unfolding_all rfl) (by with_unfolding_all rfl) (by rfl) (by (intro _; rfl)); k_whole))
  k_with "call type:enumerate" => (k_here; k_dflt (refine' enum_call (by k_asm) (by k_asm) (by k_extra "m list") ?_; k_whole; intro _ _ _ _ _ _ _ _ _ _ _))
  trivial
section
theorem off83 : True := by
  w_top off
  trivial
/-! ## the law's own pick -/
noncomputable def keyOf (o : Nat) (rs : Rng) (dx : Int) : List Int :=
  if o = 0 then [] else if o = 1 then [manyOf rs (0 - 10 ^ 40) (10 ^ 40)] else if o = 2 then [lowOf rs] else if o = 3 then [0 - highOf rs] else [manyOf rs (0 - 10 ^ 40) (10 ^ 40), 0 - dx]
noncomputable abbrev Cand := List Int × Nat × Nat
noncomputable def candOf (doms : List Rng) (o : Nat) (deg : Nat → Int) (i x : Nat) : List Cand := if 1 < manyOf (doms.getD x []) (0 - 10 ^ 40) (10 ^ 40) then [(keyOf o (doms.getD x []) (deg x), i, x)] else []
noncomputable def candsOf (doms : List Rng) (o : Nat) (deg : Nat → Int) (l : List Nat) : List Cand := l.zipIdx.flatMap fun p => candOf doms o deg p.2 p.1
theorem candsOf_snoc (doms : List Rng) (o : Nat) (deg : Nat → Int) (l : List Nat) (x : Nat) : candsOf doms o deg (l ++ [x]) = candsOf doms o deg l ++ candOf doms o deg l.length x := by
  simp [candsOf, List.zipIdx_append]
noncomputable def keyLt (a b : List Int) : Bool := lexOf (fun j => a.getD j 0 == b.getD j 0) (fun j => decide (a.getD j 0 < b.getD j 0)) (List.range a.length) false
noncomputable def candLt (c d : Cand) : Bool := lexOf (fun j => if j = 0 then decide (c.1 = d.1) else if j = 1 then (c.2.1 : Int) == d.2.1 else (c.2.2 : Int) == d.2.2) (fun j => if j = 0 then keyLt c.1 d.1 else if j = 1 then decide ((c.2.1 : Int) < d.2.1) else decide ((c.2.2 : Int) < d.2.2)) [0, 1, 2] false
noncomputable def candBt (cs : List Cand) (i j : Nat) : Bool := candLt (cs.getD i ([], 0, 0)) (cs.getD j ([], 0, 0))
noncomputable def wantedOf (doms : List Rng) (o : Nat) (deg : Nat → Int) (row : List Nat) : Option Nat :=
  let cs := candsOf doms o deg row
  if cs = [] then none else some (cs.getD (argBest (candBt cs) (cs.length - 1)) ([], 0, 0)).2.2
noncomputable def WantIs (v : Value) (z : Option Nat) : Prop := match z with | none => v = .none | some x => ∃ t, v = .int (x : Int) t
noncomputable def CandAt (h : Heap) (v : Value) (c : Cand) : Prop := ∃ p kl kv t1 t2, v = .ref p ∧ IsTup h p #[.ref kl, .int (c.2.1 : Int) t1, .int (c.2.2 : Int) t2] ∧ h.IsList kl (List.toArray kv) ∧ IntsAre kv c.1
theorem CandAt.mono {h h' : Heap} {v : Value} {c : Cand} (k : Stays h h') (x : CandAt h v c) : CandAt h' v c := let ⟨p, kl, kv, t1, t2, e, a, b, d⟩ := x; ⟨p, kl, kv, t1, t2, e, a.keeps k, isList_mono k b, d⟩
noncomputable def CandsPn (pn : List (Addr × Obj)) (vs : List Value) (cs : List Cand) : Prop := vs.length = cs.length ∧ ∀ h : Heap, (∀ p ∈ pn, h.get? p.1 = some p.2) → ∀ (i : Nat) v c, vs[i]? = some v → cs[i]? = some c → CandAt h v c
theorem candsPn_snoc {pn : List (Addr × Obj)} {vs kv : List Value} {cs : List Cand} {p kl : Addr} {t1 t2 : Tok} {ver : Nat} {c : Cand} (x : CandsPn pn vs cs) (hk : IntsAre kv c.1) :
    CandsPn ((p, tupObj [.ref kl, .int (c.2.1 : Int) t1, .int (c.2.2 : Int) t2]) :: (kl, lstObj kv ver) :: pn) (vs ++ [.ref p]) (cs ++ [c]) := by
  refine ⟨by simp [x.1], fun h hp i v d hv hd => ?_⟩
  by_cases hi : i < vs.length
  · rw [List.getElem?_append_left hi] at hv
    rw [List.getElem?_append_left (by rw [← x.1]; exact hi)] at hd
    exact x.2 h (fun q hq => hp q (.tail _ (.tail _ hq))) i v d hv hd
  · rw [List.getElem?_append_right (by omega)] at hv
    rw [List.getElem?_append_right (by rw [← x.1]; omega), ← x.1] at hd
    have hi0 : i - vs.length = 0 := by
      cases q : i - vs.length with
      | zero => rfl
      | succ n => rw [q] at hv; simp at hv
    rw [hi0] at hv hd
    cases hv; cases hd
    exact ⟨p, kl, kv, t1, t2, rfl, ⟨_, hp _ (.head _), rfl, 0, rfl⟩, ⟨_, hp _ (.tail _ (.head _)), rfl, ver, rfl⟩, hk⟩
theorem ints_same : ∀ {vs : List Value} {a b : List Int}, IntsAre vs a → IntsAre vs b → a = b
  | [], _, _, x, y => by cases x; cases y; rfl
  | v :: vs, _, _, x, y => by
    cases x with
    | cons n t x' => cases y with
      | cons _ _ y' => rw [ints_same x' y']
section
variable {A : Around} {s : Shared}
open PySem.SeqAt in
theorem keys_eqAt {l b : Addr} {kv kw : List Value} {x y : List Int} (hl : s.heap.IsList l kv.toArray) (hb : s.heap.IsList b kw.toArray) (hx : IntsAre kv x) (hy : IntsAre kw y) (hlen : x.length = y.length) (hu : A.units + 64 < cLine) :
    EqAt A s (.ref l) (.ref b) (decide (x = y)) := by
  by_cases e : l = b
  · subst e
    obtain ⟨o, ho, hc, n, hd⟩ := hl
    obtain ⟨o', ho', hc', n', hd'⟩ := hb
    rw [ho] at ho'; cases ho'
    rw [hd] at hd'
    have : kv = kw := by
      have e1 : kv.toArray = kw.toArray := by injection hd'
      simpa using e1
    subst this
    rw [ints_same hx hy, decide_eq_true rfl]
    exact EqAt.same _
  · refine EqAt.of_refs e ?_
    have h1 := IntsAre.length hx
    have h2 := IntsAre.length hy
    have r := RcAt.lists (A := A) (e := fun j => x.getD j 0 == y.getD j 0) hl hb (by simp; omega) (by omega) (fun j h3 h4 => by
      have h3' : j < kv.length := by simpa using h3
      have h4' : j < kw.length := by simpa using h4
      obtain ⟨t, ht⟩ := IntsAre.get hx j (x.getD j 0) (by rw [List.getD_eq_getElem?_getD, List.getElem?_eq_getElem (by omega)]; rfl)
      obtain ⟨u, hu'⟩ := IntsAre.get hy j (y.getD j 0) (by rw [List.getD_eq_getElem?_getD, List.getElem?_eq_getElem (by omega)]; rfl)
      have e1 : kv.toArray[j] = .int (x.getD j 0) t := by
        rw [List.getElem?_eq_getElem h3'] at ht
        simpa using ht
      have e2 : kw.toArray[j] = .int (y.getD j 0) u := by
        rw [List.getElem?_eq_getElem h4'] at hu'
        simpa using hu'
      rw [e1, e2]
      exact EqAt.int_int _ _ _ _)
    have e3 : (List.range kv.toArray.size).all (fun j => x.getD j 0 == y.getD j 0) = decide (x = y) := by
      rw [Bool.eq_iff_iff]
      simp only [List.all_eq_true, List.mem_range, List.size_toArray, beq_iff_eq, decide_eq_true_eq]
      constructor
      · intro hh
        refine List.ext_getElem hlen fun j hj1 hj2 => ?_
        have := hh j (by omega)
        rw [List.getD_eq_getElem?_getD, List.getD_eq_getElem?_getD, List.getElem?_eq_getElem hj1, List.getElem?_eq_getElem hj2] at this
        exact this
      · intro hh; subst hh; intro j _; rfl
    rw [e3] at r
    exact r
open PySem.SeqAt in
theorem keys_ltAt {l b : Addr} {kv kw : List Value} {x y : List Int} (hl : s.heap.IsList l kv.toArray) (hb : s.heap.IsList b kw.toArray) (hx : IntsAre kv x) (hy : IntsAre kw y) (hlen : x.length = y.length) (hu : A.units + 64 < cLine) :
    LtAt A s (.ref l) (.ref b) (keyLt x y) := by
  have h1 := IntsAre.length hx
  have h2 := IntsAre.length hy
  have get : ∀ (j : Nat) (h3 : j < kv.toArray.size) (h4 : j < kw.toArray.size), ∃ t u, kv.toArray[j] = .int (x.getD j 0) t ∧ kw.toArray[j] = .int (y.getD j 0) u := fun j h3 h4 => by
    have h3' : j < kv.length := by simpa using h3
    have h4' : j < kw.length := by simpa using h4
    obtain ⟨t, ht⟩ := IntsAre.get hx j (x.getD j 0) (by rw [List.getD_eq_getElem?_getD, List.getElem?_eq_getElem (by omega)]; rfl)
    obtain ⟨u, hu'⟩ := IntsAre.get hy j (y.getD j 0) (by rw [List.getD_eq_getElem?_getD, List.getElem?_eq_getElem (by omega)]; rfl)
    refine ⟨t, u, ?_, ?_⟩
    · rw [List.getElem?_eq_getElem h3'] at ht
      simpa using ht
    · rw [List.getElem?_eq_getElem h4'] at hu'
      simpa using hu'
  have r := LtAt.lists (A := A) (e := fun j => x.getD j 0 == y.getD j 0) (lt := fun j => decide (x.getD j 0 < y.getD j 0)) hl hb (by simp; omega) (by omega)
    (fun j h3 h4 => by obtain ⟨t, u, e1, e2⟩ := get j h3 h4; rw [e1, e2]; exact EqAt.int_int _ _ _ _)
    (fun j h3 h4 _ => by obtain ⟨t, u, e1, e2⟩ := get j h3 h4; rw [e1, e2]; exact LtAt.ints _ _ _ _ _ _)
  rw [show List.range kv.toArray.size = List.range x.length by simp [h1]] at r
  exact r
theorem cands_ltAt {v v' : Value} {c d : Cand} (hc : CandAt s.heap v c) (hd : CandAt s.heap v' d) (hlen : c.1.length = d.1.length) (hu : A.units + 128 < cLine) : LtAt A s v v' (candLt c d) := by
  obtain ⟨p, kl, kv, t1, t2, rfl, hp, hkl, hkv⟩ := hc
  obtain ⟨q, ll, lv, u1, u2, rfl, hq, hll, hlv⟩ := hd
  refine LtAt.tuples (A := A) (e := fun j => if j = 0 then decide (c.1 = d.1) else if j = 1 then (c.2.1 : Int) == d.2.1 else (c.2.2 : Int) == d.2.2) (lt := fun j => if j = 0 then keyLt c.1 d.1 else if j = 1 then decide ((c.2.1 : Int) < d.2.1) else decide ((c.2.2 : Int) < d.2.2)) hp hq (by omega) (fun j h1 h2 => ?_) (fun j h1 h2 _ => ?_)
  · have hj : j < 3 := h1
    have : j = 0 ∨ j = 1 ∨ j = 2 := by omega
    rcases this with rfl | rfl | rfl
    · exact keys_eqAt hkl hll hkv hlv hlen (by show A.units + 1 + 64 < cLine; omega)
    · exact PySem.SeqAt.EqAt.int_int _ _ _ _
    · exact PySem.SeqAt.EqAt.int_int _ _ _ _
  · have hj : j < 3 := h1
    have : j = 0 ∨ j = 1 ∨ j = 2 := by omega
    rcases this with rfl | rfl | rfl
    · exact keys_ltAt hkl hll hkv hlv hlen (by show A.units + 1 + 64 < cLine; omega)
    · exact LtAt.ints _ _ _ _ _ _
    · exact LtAt.ints _ _ _ _ _ _
end
theorem keyOf_length (o : Nat) (rs qs : Rng) (dx dy : Int) : (keyOf o rs dx).length = (keyOf o qs dy).length := by
  unfold keyOf; (repeat' split) <;> rfl
theorem mem_candsOf {doms : List Rng} {o : Nat} {deg : Nat → Int} {l : List Nat} {c : Cand} (h : c ∈ candsOf doms o deg l) : ∃ rs dx, c.1 = keyOf o rs dx := by
  obtain ⟨p, _, hp⟩ := List.mem_flatMap.mp h
  unfold candOf at hp
  split at hp
  · rw [List.mem_singleton.mp hp]; exact ⟨_, _, rfl⟩
  · cases hp
section
variable {prog : Program} {w : World} {A : Around} {E : Value → Shared → Prop} {s : Shared} {g : Heap} {L : Addr} {m : PySem.Str → Option Value}
theorem list_last {value slice : PySem.Expr} {t : Addr} {l : List Value} {u : Tok} {x : Value} {Q : Value → Shared → Prop} (ht : s.heap.IsList t l.toArray)
    (hx : l[l.length - 1]? = some x) (h : Q x s)
    (hs : subscripted slice false (.ref t) (.int (-1) u) = operate [.ref t, .int (-1) u] (getItem (.ref t) (.int (-1) u)) := by with_unfolding_all rfl) :
    wpAny (model prog w) A (subscriptTail value slice (.ref t) (.int (-1) u)) Q E s := by
  have hl : l.length - 1 < l.length := by
    obtain ⟨h, _⟩ := List.getElem?_eq_some_iff.mp hx; exact h
  refine tail_any ht.typeIs PySem.slot_list_getitem.lookup (wpAny_getItem_list_neg ht (by decide) (by rw [List.size_toArray]; omega) (by decide) ?_ h) hs
  rw [List.size_toArray, show ((-1 : Int) + (l.length : Nat)).toNat = l.length - 1 by omega]
  simpa using hx
theorem min_cands {l : Addr} {vs : List Value} {ver : Nat} {news pn : List (Addr × Obj)} {doms : List Rng} {o : Nat} {deg : Nat → Int} {row : List Nat} {Q : Value → Shared → Prop} (F : Fr g L s.heap m) (N : News g L s.heap news) (hl : (l, lstObj vs ver) ∈ news)
    (hpn : CandsPn pn vs (candsOf doms o deg row)) (hs : ∀ p ∈ pn, p ∈ news) (hne : vs ≠ []) (hh : A.handled = none) (hu : A.units + 256 < cLine)
    (hQ : ∀ p kl t1 t2 h' tk c, wantedOf doms o deg row = some c.2.2 → Fr g L h' m → News g L h' news → IsTup h' p #[.ref kl, .int ((c : Cand).2.1 : Int) t1, .int (c.2.2 : Int) t2] → Q (.ref p) { s with heap := h', toks := tk }) :
    wpAny (model prog w) A (call (.builtin "min") [.ref l]) Q E s := by
  have hlen := hpn.1
  have hat := hpn.2 s.heap fun p hp => (N p (hs p hp)).1
  have hpos : 0 < vs.length := List.length_pos_iff.mpr hne
  refine min_list (bt := candBt (candsOf doms o deg row)) hh (N.isList hl) hpos (fun i j vi vj s' hk hi hj => ?_) fun v h' tk hv hk => ?_
  · have hi' : i < vs.length := by obtain ⟨q, _⟩ := List.getElem?_eq_some_iff.mp hi; exact q
    have hj' : j < vs.length := by obtain ⟨q, _⟩ := List.getElem?_eq_some_iff.mp hj; exact q
    have ei : (candsOf doms o deg row)[i]? = some ((candsOf doms o deg row).getD i ([], 0, 0)) := by rw [List.getD_eq_getElem?_getD, List.getElem?_eq_getElem (by omega)]; rfl
    have ej : (candsOf doms o deg row)[j]? = some ((candsOf doms o deg row).getD j ([], 0, 0)) := by rw [List.getD_eq_getElem?_getD, List.getElem?_eq_getElem (by omega)]; rfl
    refine cands_ltAt ((hat i vi _ hi ei).mono hk) ((hat j vj _ hj ej).mono hk) ?_ (by show A.units + 1 + 128 < cLine; omega)
    obtain ⟨r1, d1, e1⟩ := mem_candsOf (List.mem_of_getElem? ei)
    obtain ⟨r2, d2, e2⟩ := mem_candsOf (List.mem_of_getElem? ej)
    rw [e1, e2]; exact keyOf_length _ _ _ _ _
  · have hb : argBest (candBt (candsOf doms o deg row)) (vs.length - 1) < vs.length := by obtain ⟨q, _⟩ := List.getElem?_eq_some_iff.mp hv; exact q
    generalize hi : argBest (candBt (candsOf doms o deg row)) (vs.length - 1) = i at hv hb
    have ei : (candsOf doms o deg row)[i]? = some ((candsOf doms o deg row).getD i ([], 0, 0)) := by rw [List.getD_eq_getElem?_getD, List.getElem?_eq_getElem (by omega)]; rfl
    obtain ⟨p, kl, kv, t1, t2, rfl, hp, _⟩ := hat i v _ hv ei
    refine hQ p kl t1 t2 h' tk _ ?_ (Fr.keeps F hk) (News.grown N hk) (hp.keeps hk)
    have hcs : candsOf doms o deg row ≠ [] := fun q => by rw [q] at hlen; simp at hlen; exact hne hlen
    simp only [wantedOf, if_neg hcs]
    rw [← hlen, hi]
end
/-- the law's ranges, as lists -/
noncomputable def LotsAt (h : Heap) (vs : List Value) (doms : List Rng) : Prop :=
  vs.length = doms.length ∧ ∀ (x : Nat) rs, doms[x]? = some rs → ∃ d items, vs[x]? = some (.ref d) ∧ h.IsList d (List.toArray items) ∧ Prs h items rs ∧ rs ≠ [] ∧ rs.length ≤ 1000
theorem LotsAt.mono {h h' : Heap} {vs : List Value} {doms : List Rng} (k : Stays h h') (x : LotsAt h vs doms) : LotsAt h' vs doms :=
  ⟨x.1, fun y rs e => let ⟨d, items, a1, a2, a3, a4, a5⟩ := x.2 y rs e; ⟨d, items, a1, isList_mono k a2, a3.mono k, a4, a5⟩⟩

end
section
theorem off84 : True := by
  w_top off
  trivial
theorem Calm.u2 {A : Around} {k : Nat} (h : Calm A k) : A.units + 256 < cLine := by
  have := h.hu; simp only [cLine]; omega
theorem candsOf_length (doms : List Rng) (o : Nat) (deg : Nat → Int) (l : List Nat) : (candsOf doms o deg l).length ≤ l.length := by
  rw [candsOf, List.length_flatMap]
  have : ∀ q : List (Nat × Nat), (q.map fun p => (candOf doms o deg p.2 p.1).length).sum ≤ q.length := by
    intro q
    induction q with
    | nil => simp
    | cons p q ih =>
      have : (candOf doms o deg p.2 p.1).length ≤ 1 := by unfold candOf; split <;> simp
      simp only [List.map_cons, List.sum_cons, List.length_cons]; omega
  have := this l.zipIdx
  simpa using this
theorem get_order {w : World} {A : Around} {E : Value → Shared → Prop} {s : Shared} {g : Heap} {L d : Addr} {news : List (Addr × Obj)} {od : Obj} {v0 v1 v2 v3 v4 : Value} {o : Nat} {t : Tok} {Q : Value → Shared → Prop} (N : News g L s.heap news) (hm : (d, od) ∈ news)
    (hd : Obj.IsDictOf (PySem.strKind PR w) od [(Str.ofString "input_order", v0), (Str.ofString "first_fail", v1), (Str.ofString "smallest", v2), (Str.ofString "largest", v3)]) (lo : (d == sysModules) = false) (ho : o < 5)
    (h0 : o = 0 → Q v0 { s with toks := s.toks + 1 }) (h1 : o = 1 → Q v1 { s with toks := s.toks + 1 }) (h2 : o = 2 → Q v2 { s with toks := s.toks + 1 }) (h3 : o = 3 → Q v3 { s with toks := s.toks + 1 }) (h4 : o = 4 → Q v4 { s with toks := s.toks + 1 }) :
    wpAny (model PR w) A (call (.builtin "dict.get") [.ref d, .str (Str.ofString (ordName o)) t, v4]) Q E s := by
  have c5 : o = 0 ∨ o = 1 ∨ o = 2 ∨ o = 3 ∨ o = 4 := by omega
  rcases c5 with rfl | rfl | rfl | rfl | rfl
  · exact kdg_get2 N hm hd lo (strKind_is _ _ _ _) (some v0) (by rfl) (h0 rfl)
  · exact kdg_get2 N hm hd lo (strKind_is _ _ _ _) (some v1) (by rfl) (h1 rfl)
  · exact kdg_get2 N hm hd lo (strKind_is _ _ _ _) (some v2) (by rfl) (h2 rfl)
  · exact kdg_get2 N hm hd lo (strKind_is _ _ _ _) (some v3) (by rfl) (h3 rfl)
  · exact kdg_get2 N hm hd lo (strKind_is _ _ _ _) none (by rfl) (h4 rfl)
theorem wanted_end {g h' : Heap} {L : Addr} {e it p kl fl : Nat} {oe oit : Obj} {pn news : List (Addr × Obj)} {m' : PySem.Str → Option Value} {tups kv : List Value} {ver kver tk : Nat} {op : Obj} {s₂ : Shared} {J : (PySem.Str → Option Value) → List (Addr × Obj) → Prop}
    (F : Fr g L h' m') (N : News g L h' news) (h1 : (e, oe) ∈ news) (h2 : (it, oit) ∈ news) (h3 : (fl, lstObj tups ver) ∈ news) (h4 : (p, op) ∈ news) (h5 : (kl, lstObj kv kver) ∈ news) (h6 : ∀ q ∈ pn, q ∈ news)
    (n1 : p ≠ e) (n2 : p ≠ it) (n3 : kl ≠ e) (n4 : kl ≠ it) (n5 : fl ≠ e) (n6 : fl ≠ it) (n7 : ∀ q ∈ pn, @Ne Nat q.1 e ∧ @Ne Nat q.1 it)
    (hJ : J m' ((fl, lstObj tups ver) :: (p, op) :: (kl, lstObj kv kver) :: pn)) : ForEnd g L [(e, oe), (it, oit)] J s₂ { s₂ with heap := h', toks := tk } := by
  refine ⟨h', tk, m', news, (fl, lstObj tups ver) :: (p, op) :: (kl, lstObj kv kver) :: pn, rfl, F, N, fun r hr => ?_, fun r hr => ?_, fun r hr r' hr' => ?_, hJ⟩
  · rcases List.mem_cons.mp hr with rfl | hr
    · exact h1
    · cases List.mem_singleton.mp hr; exact h2
  · rcases List.mem_cons.mp hr with rfl | hr
    · exact h3
    · rcases List.mem_cons.mp hr with rfl | hr
      · exact h4
      · rcases List.mem_cons.mp hr with rfl | hr
        · exact h5
        · exact h6 r hr
  · have y : @Ne Nat r.1 e ∧ @Ne Nat r.1 it := by
      rcases List.mem_cons.mp hr with rfl | hr
      · exact ⟨n5, n6⟩
      · rcases List.mem_cons.mp hr with rfl | hr
        · exact ⟨n1, n2⟩
        · rcases List.mem_cons.mp hr with rfl | hr
          · exact ⟨n3, n4⟩
          · exact n7 r hr
    rcases List.mem_cons.mp hr' with rfl | hr'
    · exact y.1
    · cases List.mem_singleton.mp hr'; exact y.2
theorem own_cons1 {p : Addr} {o : Obj} {pn : List (Addr × Obj)} {a : Addr} (h1 : @Ne Nat p a) (h : OwnOff pn [a]) : OwnOff ((p, o) :: pn) [a] := fun q hq c hc => by
  rcases List.mem_cons.mp hq with rfl | hq
  · cases List.mem_singleton.mp hc; exact h1
  · exact h q hq c hc
theorem own84_1 : True := by
  k_with "call builtin:dict.get" => (k_here; (with_reducible show wpAny _ _ (call (Value.builtin "dict.get") [Value.ref _, Value.str (PySem.Str.ofString (ordName _)) _, _]) _ _ _); k_dflt (refine' get_order (by k_asm) (by k_mem) (by assumption) (by assumption) (by assumption) ?_ ?_ ?_ ?_ ?_; k_whole; all_goals intro _))
  k_with "getMethod ref" => (k_here; (with_reducible show wpAny _ _ (getMethod (Value.ref _) (PySem.Str.ofString "get") _) _ _ _); k_dflt (refine' kdg_method (knd := PySem.strKind _ _) (by k_asm) (by k_mem) (by assumption) ?_; k_whole))
  k_with "call builtin:min" => (k_here; (with_reducible show wpAny _ _ (call (Value.builtin _) [Value.ref _]) _ _ _); k_dflt (refine' min_cands (by k_asm) (by k_asm) (by k_mem) (by with_reducible assumption) (by k_extra "m own") (by assumption) (by first | exact Calm.hh (by assumption) | with_unfolding_all rfl) (by exact Calm.u2 (by with_reducible assumption)) ?_; k_whole; intro _ _ _ _ _ _ _ _ _ _ _))
  k_with "exec For Tuple Call cons nil" => k_extra "m for enum"
  k_with "subscriptTail" => (k_here; (with_reducible show wpAny _ _ (subscriptTail _ _ (Value.ref _) (Value.int (-1) _)) _ _ _); (with_unfolding_all refine' list_last (by k_extra "m list") (by first | assumption | rfl) ?_ (by with_unfolding_all rfl); k_whole))
  trivial
section
variable {w : World} {mean : ExcName → Option Value} {mg mb : PySem.Str → Option Value} {B : Heap} {A : Around} {s : Shared} {Q E : Value → Shared → Prop}
inductive WantJ (fl : Addr) (doms : List Rng) (o : Nat) (deg : Nat → Int) (row : List Nat) (m0 : PySem.Str → Option Value) (i : Nat) (m : PySem.Str → Option Value) (news : List (Addr × Obj)) : Prop
  | mk (tups : List Value) (ver : Nat) (pn : List (Addr × Obj)) (u1 u2 u3 u4 : Option Value) (em : m = ov [(Str.ofString "place", u1), (Str.ofString "x", u2), (Str.ofString "many", u3), (Str.ofString "key", u4)] m0) (en : news = (fl, lstObj tups ver) :: pn) (a1 : OwnOff pn [fl]) (a2 : CandsPn pn tups (candsOf doms o deg (row.take i))) : WantJ fl doms o deg row m0 i m news
set_option pp.deepTerms false
set_option pp.deepTerms.threshold 3
theorem wanted_spec {ll rl dg : Addr} {lv rv dv : List Value} {to : Tok} {o : Nat} {doms : List Rng} {row : List Nat} {deg : Nat → Int} (C : Core w mean mg mb B) (hB : Stays B s.heap) (hA : Calm A 6) (hl : s.heap.IsList ll lv.toArray) (hlots : LotsAt s.heap lv doms)
  (hr : s.heap.IsList rl rv.toArray) (hrow : RowIs rv row) (hin : ∀ x ∈ row, x < doms.length) (ho : o < 5) (hdl : s.heap.IsList dg dv.toArray) (hdeg : IntsAre dv ((List.range doms.length).map deg)) (hmany : doms.length ≤ 1000) (hrz : row.length ≤ 100)
  (hret : ∀ h' tk' v, Stays s.heap h' → WantIs v (wantedOf doms o deg row) → Q v {s with heap := h', toks := tk'}) :
  wpAny (model PR w) A (call (.ref 347) [.ref ll, .ref rl, .str (Str.ofString (ordName o)) to, .ref dg]) Q E s := by
  k_extra "m enter0"
  k_steps
  rename_i fl h2 l1 h1 F1 N1 h3 e it oe oit ne1 ie1 il1 F3 N3 sp1
  clear F1 N1
  refine with_map F3 fun m0 em0 F4 => ?_
  refine ⟨e, it, rl, oe, oit, rv, WantJ fl doms o deg row m0,
    _, _, rfl, ne1, ie1, il1, hr, F3, N3, sp1, ⟨[], 0, [], m0 (Str.ofString "place"), m0 (Str.ofString "x"), m0 (Str.ofString "many"), m0 (Str.ofString "key"), (by subst em0; exact ov_eq _ (by k_extra "m in") (by k_extra "m out")), rfl, (fun _ q => nomatch q), ⟨rfl, fun _ _ _ _ _ q => nomatch q⟩⟩, ?_, ?_⟩
  · rintro i v h tk m oe2 oit2 news t E' hv ⟨tups, ver, pn, u1, u2, u3, u4, rfl, rfl, hoff, hcs⟩ F5 N5 hne5
    subst em0
    clear F3 F4 N3 ie1 il1 sp1 ne1
    obtain ⟨x, tx, hx, rfl⟩ := hrow.get hv
    have hxm := hin x (List.mem_of_getElem? hx)
    have hdx : doms[x]? = some (doms.getD x []) := by rw [List.getD_eq_getElem?_getD, List.getElem?_eq_getElem hxm]; rfl
    obtain ⟨d, items, hvx, hid, hip, hine, hiz⟩ := hlots.2 x _ hdx
    obtain ⟨td, hvd⟩ := IntsAre.get hdeg x (deg x) (by simp [hxm])
    obtain ⟨p, t1, t2, r, hp0, hr0, hpt⟩ := hip.last hine
    obtain ⟨p', t1', t2', r', hp0', hr0', hpt'⟩ := hip.first hine
    have hxf : x < 2 ^ 62 := by omega
    have hfe : @Ne Nat fl e := (hne5 _ (.head _)).1
    have hfi : @Ne Nat fl it := (hne5 _ (.head _)).2
    have hlow : lowOf (doms.getD x []) = r'.1 := by rw [lowOf, List.head?_eq_getElem?, hr0']; rfl
    have hhigh : highOf (doms.getD x []) = r.2 := by rw [highOf, List.getLast?_eq_getElem?, hr0]; rfl
    have hct := candsOf_length doms o deg (row.take i)
    have htl : tups.length < 1000 := by
      rw [hcs.1]
      have : (row.take i).length ≤ row.length := by rw [List.length_take]; omega
      omega
    have hk0 : o = 0 → keyOf o (doms.getD x []) (deg x) = [] := fun q => by subst q; rfl
    have hk1 : o = 1 → keyOf o (doms.getD x []) (deg x) = [manyOf (doms.getD x []) (0 - 10 ^ 40) (10 ^ 40)] := fun q => by subst q; rfl
    have hk2 : o = 2 → keyOf o (doms.getD x []) (deg x) = [r'.1] := fun q => by subst q; rw [← hlow]; rfl
    have hk3 : o = 3 → keyOf o (doms.getD x []) (deg x) = [0 - r.2] := fun q => by subst q; rw [← hhigh]; rfl
    have hk4 : o = 4 → keyOf o (doms.getD x []) (deg x) = [manyOf (doms.getD x []) (0 - 10 ^ 40) (10 ^ 40), 0 - deg x] := fun q => by subst q; rfl
    have hil : (row.take i).length = i := by
      have : i < row.length := by obtain ⟨q, _⟩ := List.getElem?_eq_some_iff.mp hx; exact q
      rw [List.length_take]; omega
    have hst : row.take (i + 1) = row.take i ++ [x] := by rw [List.take_add_one, hx]; rfl
    have hsn : 1 < manyOf (doms.getD x []) (0 - 10 ^ 40) (10 ^ 40) → candsOf doms o deg (row.take (i + 1)) = candsOf doms o deg (row.take i) ++ [(keyOf o (doms.getD x []) (deg x), i, x)] := fun q => by
      rw [hst, candsOf_snoc, hil, candOf, if_pos q]
    have hsm : ¬ 1 < manyOf (doms.getD x []) (0 - 10 ^ 40) (10 ^ 40) → candsOf doms o deg (row.take (i + 1)) = candsOf doms o deg (row.take i) := fun q => by
      rw [hst, candsOf_snoc, hil, candOf, if_neg q, List.append_nil]
    k_steps
    · rename o = 0 => ho'o
      rename Fr _ _ _ _ => F6
      rename News _ _ _ _ => N6
      refine wanted_end (pn := pn) F6 N6 (.tail _ (.tail _ (.tail _ (.tail _ (.tail _ (.tail _ (.tail _ (.head _)))))))) (.tail _ (.tail _ (.tail _ (.tail _ (.tail _ (.tail _ (.tail _ (.tail _ (.head _))))))))) (.tail _ (.tail _ (.tail _ (.tail _ (.tail _ (.tail _ (.tail _ (.tail _ (.tail _ (.head _)))))))))) (.head _) (.tail _ (.tail _ (.tail _ (.tail _ (.tail _ (.head _)))))) (fun q hq => (.tail _ (.tail _ (.tail _ (.tail _ (.tail _ (.tail _ (.tail _ (.tail _ (.tail _ (.tail _ hq))))))))))) (Ne.symm (Nat.ne_of_lt (by k_extra "m lt"))) (Ne.symm (Nat.ne_of_lt (by k_extra "m lt"))) (Ne.symm (Nat.ne_of_lt (by k_extra "m lt"))) (Ne.symm (Nat.ne_of_lt (by k_extra "m lt"))) hfe hfi (fun q hq => hne5 q (.tail _ hq)) ⟨_, _, _, _, _, _, _, ov_eq _ (by k_extra "m in") (by k_extra "m out"), rfl,
        own_cons1 (Ne.symm (Nat.ne_of_lt (by k_extra "m lt"))) (own_cons1 (Ne.symm (Nat.ne_of_lt (by k_extra "m lt"))) hoff), ?_⟩
      rw [hsn (by assumption)]
      exact candsPn_snoc (c := (keyOf o (doms.getD x []) (deg x), i, x)) hcs (by rw [hk0 ho'o]; exact .nil)
    · rename o = 1 => ho'o
      rename Fr _ _ _ _ => F6
      rename News _ _ _ _ => N6
      refine wanted_end (pn := pn) F6 N6 (.tail _ (.tail _ (.tail _ (.tail _ (.tail _ (.tail _ (.tail _ (.head _)))))))) (.tail _ (.tail _ (.tail _ (.tail _ (.tail _ (.tail _ (.tail _ (.tail _ (.head _))))))))) (.tail _ (.tail _ (.tail _ (.tail _ (.tail _ (.tail _ (.tail _ (.tail _ (.tail _ (.head _)))))))))) (.head _) (.tail _ (.tail _ (.tail _ (.tail _ (.head _))))) (fun q hq => (.tail _ (.tail _ (.tail _ (.tail _ (.tail _ (.tail _ (.tail _ (.tail _ (.tail _ (.tail _ hq))))))))))) (Ne.symm (Nat.ne_of_lt (by k_extra "m lt"))) (Ne.symm (Nat.ne_of_lt (by k_extra "m lt"))) (Ne.symm (Nat.ne_of_lt (by k_extra "m lt"))) (Ne.symm (Nat.ne_of_lt (by k_extra "m lt"))) hfe hfi (fun q hq => hne5 q (.tail _ hq)) ⟨_, _, _, _, _, _, _, ov_eq _ (by k_extra "m in") (by k_extra "m out"), rfl,
        own_cons1 (Ne.symm (Nat.ne_of_lt (by k_extra "m lt"))) (own_cons1 (Ne.symm (Nat.ne_of_lt (by k_extra "m lt"))) hoff), ?_⟩
      rw [hsn (by assumption)]
      exact candsPn_snoc (c := (keyOf o (doms.getD x []) (deg x), i, x)) hcs (by rw [hk1 ho'o]; exact .cons _ _ .nil)
    · rename o = 2 => ho'o
      rename Fr _ _ _ _ => F6
      rename News _ _ _ _ => N6
      refine wanted_end (pn := pn) F6 N6 (.tail _ (.tail _ (.tail _ (.tail _ (.tail _ (.tail _ (.tail _ (.head _)))))))) (.tail _ (.tail _ (.tail _ (.tail _ (.tail _ (.tail _ (.tail _ (.tail _ (.head _))))))))) (.tail _ (.tail _ (.tail _ (.tail _ (.tail _ (.tail _ (.tail _ (.tail _ (.tail _ (.head _)))))))))) (.head _) (.tail _ (.tail _ (.tail _ (.head _)))) (fun q hq => (.tail _ (.tail _ (.tail _ (.tail _ (.tail _ (.tail _ (.tail _ (.tail _ (.tail _ (.tail _ hq))))))))))) (Ne.symm (Nat.ne_of_lt (by k_extra "m lt"))) (Ne.symm (Nat.ne_of_lt (by k_extra "m lt"))) (Ne.symm (Nat.ne_of_lt (by k_extra "m lt"))) (Ne.symm (Nat.ne_of_lt (by k_extra "m lt"))) hfe hfi (fun q hq => hne5 q (.tail _ hq)) ⟨_, _, _, _, _, _, _, ov_eq _ (by k_extra "m in") (by k_extra "m out"), rfl,
        own_cons1 (Ne.symm (Nat.ne_of_lt (by k_extra "m lt"))) (own_cons1 (Ne.symm (Nat.ne_of_lt (by k_extra "m lt"))) hoff), ?_⟩
      rw [hsn (by assumption)]
      exact candsPn_snoc (c := (keyOf o (doms.getD x []) (deg x), i, x)) hcs (by rw [hk2 ho'o]; exact .cons _ _ .nil)
    · rename o = 3 => ho'o
      rename Fr _ _ _ _ => F6
      rename News _ _ _ _ => N6
      refine wanted_end (pn := pn) F6 N6 (.tail _ (.tail _ (.tail _ (.tail _ (.tail _ (.tail _ (.tail _ (.head _)))))))) (.tail _ (.tail _ (.tail _ (.tail _ (.tail _ (.tail _ (.tail _ (.tail _ (.head _))))))))) (.tail _ (.tail _ (.tail _ (.tail _ (.tail _ (.tail _ (.tail _ (.tail _ (.tail _ (.head _)))))))))) (.head _) (.tail _ (.tail _ (.head _))) (fun q hq => (.tail _ (.tail _ (.tail _ (.tail _ (.tail _ (.tail _ (.tail _ (.tail _ (.tail _ (.tail _ hq))))))))))) (Ne.symm (Nat.ne_of_lt (by k_extra "m lt"))) (Ne.symm (Nat.ne_of_lt (by k_extra "m lt"))) (Ne.symm (Nat.ne_of_lt (by k_extra "m lt"))) (Ne.symm (Nat.ne_of_lt (by k_extra "m lt"))) hfe hfi (fun q hq => hne5 q (.tail _ hq)) ⟨_, _, _, _, _, _, _, ov_eq _ (by k_extra "m in") (by k_extra "m out"), rfl,
        own_cons1 (Ne.symm (Nat.ne_of_lt (by k_extra "m lt"))) (own_cons1 (Ne.symm (Nat.ne_of_lt (by k_extra "m lt"))) hoff), ?_⟩
      rw [hsn (by assumption)]
      exact candsPn_snoc (c := (keyOf o (doms.getD x []) (deg x), i, x)) hcs (by rw [hk3 ho'o]; exact .cons _ _ .nil)
    · rename o = 4 => ho'o
      rename Fr _ _ _ _ => F6
      rename News _ _ _ _ => N6
      refine wanted_end (pn := pn) F6 N6 (.tail _ (.tail _ (.tail _ (.tail _ (.tail _ (.tail _ (.tail _ (.head _)))))))) (.tail _ (.tail _ (.tail _ (.tail _ (.tail _ (.tail _ (.tail _ (.tail _ (.head _))))))))) (.tail _ (.tail _ (.tail _ (.tail _ (.tail _ (.tail _ (.tail _ (.tail _ (.tail _ (.head _)))))))))) (.head _) (.tail _ (.head _)) (fun q hq => (.tail _ (.tail _ (.tail _ (.tail _ (.tail _ (.tail _ (.tail _ (.tail _ (.tail _ (.tail _ hq))))))))))) (Ne.symm (Nat.ne_of_lt (by k_extra "m lt"))) (Ne.symm (Nat.ne_of_lt (by k_extra "m lt"))) (Ne.symm (Nat.ne_of_lt (by k_extra "m lt"))) (Ne.symm (Nat.ne_of_lt (by k_extra "m lt"))) hfe hfi (fun q hq => hne5 q (.tail _ hq)) ⟨_, _, _, _, _, _, _, ov_eq _ (by k_extra "m in") (by k_extra "m out"), rfl,
        own_cons1 (Ne.symm (Nat.ne_of_lt (by k_extra "m lt"))) (own_cons1 (Ne.symm (Nat.ne_of_lt (by k_extra "m lt"))) hoff), ?_⟩
      rw [hsn (by assumption)]
      exact candsPn_snoc (c := (keyOf o (doms.getD x []) (deg x), i, x)) hcs (by rw [hk4 ho'o]; exact .cons _ _ (.cons _ _ .nil))
    · rename Fr _ _ _ _ => F6
      rename News _ _ _ _ => N6
      refine ⟨_, _, _, _, (fl, lstObj tups ver) :: pn, rfl, F6, N6, fun r hr => ?_, fun r hr => .tail _ (.tail _ hr), fun r hr r' hr' => ?_, _, _, _, _, _, _, _, ov_eq _ (by k_extra "m in") (by k_extra "m out"), rfl, hoff, ?_⟩
      · rcases List.mem_cons.mp hr with rfl | hr
        · exact .head _
        · cases List.mem_singleton.mp hr; exact .tail _ (.head _)
      · rcases List.mem_cons.mp hr' with rfl | hr'
        · exact (hne5 r hr).1
        · cases List.mem_singleton.mp hr'; exact (hne5 r hr).2
      · rw [hsm (by assumption)]; exact hcs
  · rintro h tk m news ⟨tups, ver, pn, u1, u2, u3, u4, rfl, rfl, hoff, hcs⟩ F5 N5
    subst em0
    clear F3 F4 N3 ie1 il1 sp1 ne1
    have hrl := IntsAre.length hrow
    rw [List.length_map] at hrl
    rw [show row.take rv.length = row from List.take_of_length_le (by omega)] at hcs
    k_steps
    · rename wantedOf _ _ _ _ = _ => hw
      exact hret _ _ _ (Fr.keep (by assumption)) (by rw [hw]; exact ⟨_, rfl⟩)
    · rename ¬ _ => hn
      have hnil : candsOf doms o deg row = [] := by
        have := hcs.1
        rw [Classical.not_not.mp hn] at this
        exact List.length_eq_zero_iff.mp this.symm
      exact hret _ _ _ (Fr.keep (by assumption)) (by simp only [wantedOf, if_pos hnil]; rfl)
end

end
theorem rows84 : True := by
  k_with_none
  k_with "m mem" => first | exact mem0 | exact mem1 | exact mem2 | exact mem3 | (refine' mem4 ?_; k_extra "m mem")
  k_with "k ne" => (refine neN ?_; (try dsimp only); k_extra "m ne0")
  k_with "m lt0" => first | with_reducible assumption | (refine lt_from (by with_reducible assumption) ?_; intro hh; first | exact hh.1 | exact hh.2 | exact hh.2.1 | exact hh.2.2 | exact hh.2.2.1 | exact hh.2.2.2 | exact hh.2.2.2.1 | exact hh.2.2.2.2 | exact hh.2.2.2.2.1 | exact hh.2.2.2.2.2 | exact hh.2.2.2.2.2.1 | exact hh.2.2.2.2.2.2 | exact hh.2.2.2.2.2.2.1 | exact hh.2.2.2.2.2.2.2 | exact hh.2.2.2.2.2.2.2.1 | exact hh.2.2.2.2.2.2.2.2 | exact hh.2.2.2.2.2.2.2.2.1 | exact hh.2.2.2.2.2.2.2.2.2 | exact hh.2.2.2.2.2.2.2.2.2.1 | exact hh.2.2.2.2.2.2.2.2.2.2 | exact hh.2.2.2.2.2.2.2.2.2.2.1 | exact hh.2.2.2.2.2.2.2.2.2.2.2 | exact hh.2.2.2.2.2.2.2.2.2.2.2.1 | exact hh.2.2.2.2.2.2.2.2.2.2.2.2 | exact hh.2.2.2.2.2.2.2.2.2.2.2.2.1 | exact hh.2.2.2.2.2.2.2.2.2.2.2.2.2 | exact hh.2.2.2.2.2.2.2.2.2.2.2.2.2.1 | exact hh.2.2.2.2.2.2.2.2.2.2.2.2.2.2 | exact hh.2.2.2.2.2.2.2.2.2.2.2.2.2.2.1 | exact hh.2.2.2.2.2.2.2.2.2.2.2.2.2.2.2 | exact hh.2.2.2.2.2.2.2.2.2.2.2.2.2.2.2.1 | exact hh.2.2.2.2.2.2.2.2.2.2.2.2.2.2.2.2 | exact hh.2.2.2.2.2.2.2.2.2.2.2.2.2.2.2.2.1 | exact hh.2.2.2.2.2.2.2.2.2.2.2.2.2.2.2.2.2 | exact hh.2.2.2.2.2.2.2.2.2.2.2.2.2.2.2.2.2.1 | exact hh.2.2.2.2.2.2.2.2.2.2.2.2.2.2.2.2.2.2 | exact hh.2.2.2.2.2.2.2.2.2.2.2.2.2.2.2.2.2.2.1 | exact hh.2.2.2.2.2.2.2.2.2.2.2.2.2.2.2.2.2.2.2 | exact hh.2.2.2.2.2.2.2.2.2.2.2.2.2.2.2.2.2.2.2.1 | exact hh.2.2.2.2.2.2.2.2.2.2.2.2.2.2.2.2.2.2.2.2 | exact hh.2.2.2.2.2.2.2.2.2.2.2.2.2.2.2.2.2.2.2.2.1 | exact hh.2.2.2.2.2.2.2.2.2.2.2.2.2.2.2.2.2.2.2.2.2 | exact hh.2.2.2.2.2.2.2.2.2.2.2.2.2.2.2.2.2.2.2.2.2.1 | exact hh.2.2.2.2.2.2.2.2.2.2.2.2.2.2.2.2.2.2.2.2.2.2)
  k_with "m lt" => first | k_extra "m lt0" | omega
  k_with "m ne0" => first | with_reducible assumption | exact Ne.symm (by with_reducible assumption) | exact Nat.ne_of_lt (by k_extra "m lt0") | exact Nat.ne_of_gt (by k_extra "m lt0")
  k_with "m fill" => (have hfill : Challenge.rw_pq0372_01 = Challenge.rw_pq0372_01 ∧ KF = KF := (by k_fill; exact ⟨rfl, rfl⟩); clear hfill)
  k_with "m around" => ((rename Around => mA'); (rcases mA' with ⟨_, _, _, _, _⟩); (have mE' := Calm.hh (by with_reducible assumption)); (dsimp only at mE'); subst mE')
  k_with "m enter0" => (k_extra "m around"; k_extra "m fill"; refine wpAny_call ?_; k_dflt (refine' enter0 (by assumption) (by assumption) (by assumption) (by k_is) (by k_is) (by exact BindsTo.of_eq rfl) (by exact locs rfl) ?_ (by exact rfl) (by exact rfl) (by exact rfl) (by decide); k_whole; intro _ _ _ _ _ _ _ _ _; (try dsimp only); (try k_fold)))
  k_with "m enterC0" => (k_extra "m around"; k_extra "m fill"; refine wpAny_call ?_; k_dflt (refine' enterC0 (by assumption) (by assumption) (by assumption) (by k_is) (by k_is) (by exact BindsTo.of_eq rfl) (by rfl) (by decide) ?_ (by exact rfl) (by exact rfl) (by exact rfl); k_whole; intro _ _ _ _ _ _ _ _ _ _ _; (try dsimp only); (try k_fold)))
  k_with "m cell1" => ((rename CellsAre _ _ _ => mY'); (with_unfolding_all have mY2' := CellsAre.one mY'); (obtain ⟨_, me', _⟩ := mY2'); (subst me'); clear mY')
  k_with "m cell2" => ((rename CellsAre _ _ _ => mY'); (with_unfolding_all have mY2' := CellsAre.two mY'); (obtain ⟨_, _, me', _, _⟩ := mY2'); (subst me'); clear mY')
  k_with "m tup" => first | assumption | exact fr_tup (by with_reducible assumption) (by with_reducible assumption) | exact News.isTup (by with_reducible assumption) (by news_mem)
  k_with "m list" => first | assumption | exact fr_list (by with_reducible assumption) (by with_reducible assumption) | exact News.isList (by with_reducible assumption) (by news_mem)
  k_with "call builtin:len" => (k_here; (with_reducible show wpAny _ _ (call (Value.builtin "len") [Value.ref _]) _ _ _); k_dflt first | (refine' len_tup (by k_extra "m tup") (by first | assumption | (with_reducible decide) | omega | (simp only [List.length_append, List.length_cons, List.length_nil]; first | decide | omega)) ?_; k_whole; intro _ _) | (refine' len_lst (by k_extra "m list") (by first | assumption | (with_reducible decide) | omega | (simp only [List.length_append, List.length_cons, List.length_nil]; first | decide | omega)) ?_; k_whole; intro _ _))
  k_with "subscriptTail" => (k_here; (with_reducible show wpAny _ _ (subscriptTail _ _ (Value.ref _) (Value.int (-1) _)) _ _ _); (with_unfolding_all refine' tup_last (by k_extra "m tup") (by first | assumption | rfl) ?_ (by with_unfolding_all rfl); k_whole))
  k_with "subscriptTail" => (k_here; (with_reducible show wpAny _ _ (subscriptTail _ _ (Value.ref _) (Value.int _ _)) _ _ _); (with_unfolding_all apply tup_at); (case ht => k_extra "m tup"); (first | ((case hk => with_unfolding_all rfl); (case hx => first | assumption | rfl)) | ((case hx => assumption); (case hk => omega))); (case hf => first | decide | omega); (case hs => with_unfolding_all rfl); k_whole)
  k_with "subscriptTail" => (k_here; (with_reducible show wpAny _ _ (subscriptTail _ _ (Value.ref _) (Value.int _ _)) _ _ _); (with_unfolding_all apply list_at); (case ht => k_extra "m list"); (first | ((case hk => with_unfolding_all rfl); (case hx => first | assumption | rfl)) | ((case hx => assumption); (case hk => omega))); (case hf => first | decide | omega); (case hs => with_unfolding_all rfl); k_whole)
  k_with "k inst" => exact instAt_base (by assumption) (by assumption) (by assumption)
  k_with "m stays" => first | with_reducible assumption | exact stays_fr (by with_reducible assumption) (by with_reducible assumption)
  k_with "m calm" => exact Calm.le (by assumption) (by decide)
  k_with "m kept" => ((rename Fr _ _ _ _ => kF'); (rename News _ _ _ _ => kN'); (refine kept_of (by with_reducible assumption) kF' kN' ?_); clear kF' kN'; intro _ _; (try dsimp only); (try k_fold))
  k_with "eval Name" => ((with_reducible show wpAny _ _ (eval (Expr.Name _ _) (compEnvC _ _ _ _)) _ _ _); k_dflt first | (apply comp_local; (case F => with_reducible assumption); (case hk => rfl); (case hl => with_unfolding_all rfl); (case hd => decide); (case hm => first | with_reducible assumption | with_unfolding_all rfl); k_whole) | (apply comp_cell; (case F => with_reducible assumption); (case hk => rfl); (case hl => with_unfolding_all rfl); (case hd => decide); (case hc => with_unfolding_all rfl); (case ho => assumption); (case hv => with_reducible assumption); k_whole) | (apply comp_builtin; (case F => with_reducible assumption); (case T => with_reducible assumption); (case k => with_reducible assumption); (case hg => rfl); (case hb => rfl); (case hk => rfl); (case hx => with_unfolding_all rfl); (case hd => decide); (case h2 => first | exact mb_max (by with_reducible assumption) | exact mb_min (by with_reducible assumption)); (case h1 => first | exact mg_max (by with_reducible assumption) | exact mg_min (by with_reducible assumption)); k_whole))
  k_with "call builtin:max" => ((with_reducible show wpAny _ _ (call (Value.builtin _) [Value.int _ _, Value.int _ _]) _ _ _); k_dflt (refine' comp_max (by with_reducible assumption) (by first | exact Calm.hh (by assumption) | with_unfolding_all rfl) ?_; k_whole; intro _ _ _ _ _))
  k_with "call builtin:min" => ((with_reducible show wpAny _ _ (call (Value.builtin _) [Value.int _ _, Value.int _ _]) _ _ _); k_dflt (refine' comp_min (by with_reducible assumption) (by first | exact Calm.hh (by assumption) | with_unfolding_all rfl) ?_; k_whole; intro _ _ _ _ _))
  k_with "newTuple" => (k_dflt (refine' comp_tuple (by with_reducible assumption) ?_ (by rfl); k_whole; intro _ _ _ _))
  k_with "call type:tuple" => ((with_reducible show wpAny _ _ (call (Value.type _) [Value.ref _]) _ _ _); k_dflt (refine' tuple_of (by with_reducible assumption) (by with_reducible assumption) (by k_extra "m list") (by first | assumption | omega) ?_; k_whole; intro _ _ _ _ _ _))
  k_with "call ref" => (k_here; (with_reducible show wpAny _ _ (call (Value.ref 77) _) _ _ _); k_dflt (refine' least_spec (by assumption) (by k_extra "m stays") (by k_extra "m calm") (by k_extra "m tup") (by assumption) (by k_extra "m tup") ?_; intro _ _ _ _; k_extra "m kept"))
  k_with "call ref" => (k_here; (with_reducible show wpAny _ _ (call (Value.ref 84) _) _ _ _); k_dflt (refine' greatest_spec (by assumption) (by k_extra "m stays") (by k_extra "m calm") (by k_extra "m tup") (by assumption) (by k_extra "m tup") ?_; intro _ _ _ _; k_extra "m kept"))
  k_with "call ref" => (k_here; (with_reducible show wpAny _ _ (call (Value.ref 183) _) _ _ _); k_dflt (refine' dom_spec (by assumption) (by k_extra "m stays") (by k_extra "m calm") (by k_extra "m desk") (by assumption) (by assumption) ?_; intro _ _ _; k_extra "m kept"))
  k_with "call ref" => (k_here; (with_reducible show wpAny _ _ (call (Value.ref 197) _) _ _ _); k_dflt (refine' low_spec (by assumption) (by k_extra "m stays") (by k_extra "m calm") (by k_extra "m desk") (by assumption) (by assumption) (by k_extra "m tup") (by assumption) (by k_extra "m tup") ?_; intro _ _ _ _; k_extra "m kept"))
  k_with "call ref" => (k_here; (with_reducible show wpAny _ _ (call (Value.ref 204) _) _ _ _); k_dflt (refine' high_spec (by assumption) (by k_extra "m stays") (by k_extra "m calm") (by k_extra "m desk") (by assumption) (by assumption) (by k_extra "m tup") (by assumption) (by k_extra "m tup") ?_; intro _ _ _ _; k_extra "m kept"))
  k_with "call ref" => (k_here; (with_reducible show wpAny _ _ (call (Value.ref 89) _) _ _ _); k_dflt (refine' size_spec (by assumption) (by k_extra "m stays") (by k_extra "m calm") (by k_extra "m tup") (by first | assumption | exact Prs.mono (Fr.keep (by with_reducible assumption)) (by with_reducible assumption)) (by assumption) ?_; intro _ _ _ _; k_extra "m kept"))
  k_with "m prs" => first | with_reducible assumption | exact Prs.mono (Fr.keep (by with_reducible assumption)) (by with_reducible assumption)
  k_with "call ref" => (k_here; (with_reducible show wpAny _ _ (call (Value.ref 108) _) _ _ _); k_dflt (refine' upTo_spec (by assumption) (by k_extra "m stays") (by k_extra "m calm") (by k_extra "m tup") (by k_extra "m prs") (by assumption) ?_; intro _ _ _ kc dc; (obtain ⟨ac, vc, ec, tc, pc⟩ := dc); subst ec; revert kc ac vc tc pc; intro _ _ _ _ _; k_extra "m kept"))
  k_with "call ref" => (k_here; (with_reducible show wpAny _ _ (call (Value.ref 113) _) _ _ _); k_dflt (refine' fromOn_spec (by assumption) (by k_extra "m stays") (by k_extra "m calm") (by k_extra "m tup") (by k_extra "m prs") (by assumption) ?_; intro _ _ _ kc dc; (obtain ⟨ac, vc, ec, tc, pc⟩ := dc); subst ec; revert kc ac vc tc pc; intro _ _ _ _ _; k_extra "m kept"))
  k_with "call ref" => (k_here; (with_reducible show wpAny _ _ (call (Value.ref 120) _) _ _ _); k_dflt (refine' without_spec (by assumption) (by k_extra "m stays") (by k_extra "m calm") (by k_extra "m tup") (by k_extra "m prs") (by assumption) ?_; intro _ _ _ kc dc; (obtain ⟨ac, vc, ec, tc, pc⟩ := dc); subst ec; revert kc ac vc tc pc; intro _ _ _ _ _; k_extra "m kept"))
  k_with "call ref" => (k_here; (with_reducible show wpAny _ _ (call (Value.ref 141) _) _ _ _); k_dflt (refine' struck_spec (by assumption) (by k_extra "m stays") (by k_extra "m calm") (by assumption) (by first | assumption | exact LitAt.mono (Fr.keep (by with_reducible assumption)) (by with_reducible assumption)) (by k_extra "m tup") (by k_extra "m prs") (by assumption) ?_; intro _ _ _ kc dc; (obtain ⟨ac, vc, ec, tc, pc⟩ := dc); subst ec; revert kc ac vc tc pc; intro _ _ _ _ _; k_extra "m kept"))
  k_with "m desk" => first | assumption | exact DeskR.mono (Fr.keep (by with_reducible assumption)) (by assumption) | exact DeskR.mono (by with_reducible assumption) (by assumption)
  k_with "call ref" => (k_here; (with_reducible show wpAny _ _ (call (Value.ref 232) _) _ _ _); k_dflt (refine' width_spec (by assumption) (by k_extra "m stays") (by k_extra "m calm") (by k_extra "m desk") (by assumption) (by assumption) (by k_extra "m tup") (by k_extra "m prs") (by assumption) ?_; intro _ _ _ _; k_extra "m kept"))
  k_with "call ref" => (k_here; (with_reducible show wpAny _ _ (call (Value.ref 218) _) _ _ _); k_dflt (refine' is_fixed_spec (by assumption) (by k_extra "m stays") (by k_extra "m calm") (by k_extra "m desk") (by assumption) (by assumption) (by k_extra "m tup") (by k_extra "m prs") (by assumption) (by assumption) ?_; intro _ _ _; k_extra "m kept"))
  k_with "m in" => (repeat' (first | exact List.forall_mem_nil _ | (refine in_cons ?_ ?_; (with_unfolding_all rfl))))
  k_with "m out" => (intro my' mhy'; (repeat' first | (with_reducible exact rfl) | refine out_mem mhy' (by with_reducible k_extra "m mem") ?_ | refine out_rmem mhy' (by with_reducible k_extra "m mem") ?_ | refine out_same mhy' ?_ _ (by rfl) | refine out_ov mhy' ?_ _ (by kernel_rfl)))
  k_with "m sub" => (intro mp' mhp'; (simp only [List.mem_cons, List.not_mem_nil, or_false, List.mem_append] at mhp' ⊢); (first | exact mhp' | (rcases mhp' with mhp' | mhp' <;> simp [mhp']) | simp [mhp']))
  k_with "m for range" => (k_here; k_dflt (refine' for_rangeF (by with_reducible assumption) (by with_unfolding_all rfl) ?_ (by rfl) (by with_unfolding_all rfl) (by rfl) (by (intro _; rfl)); k_whole))
  k_with "m for tup" => (k_here; k_dflt (refine' for_tupF (by with_reducible assumption) (by with_unfolding_all rfl) ?_ (by rfl) (by with_unfolding_all rfl) (by rfl) (by (intro _; rfl)); k_whole))
  k_with "m for pairs" => (k_here; k_dflt (refine' for_pairsF (by with_reducible assumption) (by with_unfolding_all rfl) ?_ (by rfl) (by with_unfolding_all rfl) (by with_unfolding_all rfl) (by rfl) (by (intro _; rfl)); k_whole))
  k_with "call ref" => (k_here; (with_reducible show wpAny _ _ (call (Value.ref 56) _) _ _ _); k_dflt (refine' median_spec (by assumption) (by k_extra "m stays") (by k_extra "m calm") (by k_extra "m desk") (by assumption) (by assumption) (by k_extra "m tup") (by k_extra "m prs") (by assumption) (by assumption) ?_; intro _ _ _ _; k_extra "m kept"))
  k_with "m map" => first | assumption | exact fr_map (by with_reducible assumption) (by with_reducible assumption)
  k_with "m br" => first | assumption | exact BrR.mono (Fr.keep (by with_reducible assumption)) (by assumption) | exact BrR.mono (by with_reducible assumption) (by assumption)
  k_with "call ref" => (k_here; (with_reducible show wpAny _ _ (call (Value.ref 42) _) _ _ _); k_dflt (refine' rank_spec (by assumption) (by k_extra "m stays") (by k_extra "m calm") (by k_extra "m desk") (by k_extra "m br") (by assumption) (by assumption) (by assumption) (by assumption) (by k_extra "m tup") (by k_extra "m prs") (by assumption) (by assumption) ?_; intro _ _ _ _ _ kc fc oc; (rename Fr _ _ _ _ => kF'); (rename News _ _ _ _ => kN'); (have F' := Fr.keeps kF' kc); (have N' := news_fresh kF' kN' kc fc oc); clear kF' kN'; revert kc fc oc F' N'; intro _ _ _ _ _; (try dsimp only); (try k_fold)))
  k_with "m vars" => first | assumption | exact VarsAt.mono (Fr.keep (by with_reducible assumption)) (by assumption) | exact VarsAt.mono (by with_reducible assumption) (by assumption)
  k_with "call ref" => (k_here; (with_reducible show wpAny _ _ (call (Value.ref 49) _) _ _ _); k_dflt (refine' next_spec' (by assumption) (by k_extra "m stays") (by k_extra "m calm") (by k_extra "m desk") (by k_extra "m br") (by assumption) (by k_extra "m vars") (by assumption) (by assumption) (by assumption) (by assumption) (by assumption) ?_; intro _ _ _ _; k_extra "m kept"))
  k_with "call ref" => (k_here; (with_reducible show wpAny _ _ (call (Value.ref 63) _) _ _ _); k_dflt (refine' choose_spec (by assumption) (by k_extra "m stays") (by k_extra "m calm") (by k_extra "m desk") (by k_extra "m br") (by assumption) (by k_extra "m vars") (by assumption) (by assumption) (by assumption) (by assumption) ?_; intro _ _ _ _ _; k_extra "m kept"))
  k_with "m unit" => first | exact Calm.u1 (by with_reducible assumption)
  k_with "m prs0" => first | exact Prs.mono (Fr.keep (by with_reducible assumption)) (by with_reducible assumption) | with_reducible assumption | exact prs_nil | k_extra "m prs"
  k_with "compareOp Eq ref ref" => (k_here; k_dflt (refine' eq_doms (by k_extra "m tup") (by k_extra "m prs0") (by k_extra "m tup") (by k_extra "m prs0") (by k_extra "m unit") ?_; k_whole))
  k_with "compareOp NotEq ref ref" => (k_here; k_dflt first | (apply ne_nil; (case hy => k_extra "m list"); (case hx => k_extra "m list"); (case hu => exact Calm.u (by with_reducible assumption)); k_whole) | (apply ne_doms; (case hx => k_extra "m tup"); (case px => k_extra "m prs0"); (case hy => k_extra "m tup"); (case py => k_extra "m prs0"); (case hu => k_extra "m unit"); k_whole))
  k_with "call builtin:list.append" => (k_here; (with_reducible show wpAny _ _ (call (Value.builtin _) [Value.ref _, _]) _ _ _); k_dflt (refine' append_L (by k_asm) (by k_asm) (by k_upd) (by first | assumption | omega | (simp only [List.length_append, List.length_cons, List.length_nil]; omega)) ?_; k_whole); intro _ _ N'; (try dsimp only [List.nil_append, List.cons_append] at N'); revert N'; intro _; (try k_sweep))
  k_with "m enter" => (k_extra "m around"; k_extra "m fill"; refine wpAny_call ?_; k_dflt (refine' enter _ (by assumption) (by assumption) (by assumption) (by assumption) (by k_is) (by k_is) (by exact BindsTo.of_eq rfl) (by exact locs rfl) ?_ (by exact rfl) (by exact rfl) (by exact rfl) (by decide); k_whole; intro _ _ _ _ _ _ _ _ _ _ _ _ _ _; (try dsimp only); (try k_fold)))
  k_with "setItem ref int" => (k_here; k_dflt (apply set_L; (case F => k_asm); (case N => k_asm); (case U => k_upd); (case hx => assumption); (case hz => assumption); k_whole); intro _ _ N'; (try dsimp only [List.nil_append, List.cons_append] at N'); revert N'; intro _)
  k_with "setItem ref int" => (k_here; k_dflt (refine' setD_L (by k_asm) (by k_asm) (by k_updF) (by assumption) (by assumption) ?_; k_whole); intro _ _ _ _ _ N'; (try dsimp only [List.nil_append, List.cons_append] at N'); revert N'; intro _)
  k_with "call builtin:list.pop" => (k_here; (with_reducible show wpAny _ _ (call (Value.builtin _) [Value.ref _]) _ _ _); k_dflt (apply pop_L; (case F => k_asm); (case N => k_asm); (case U => k_upd); (case hz => assumption); k_whole); intro _ _ N'; (try dsimp only [List.nil_append, List.cons_append] at N'); revert N'; intro _)
  k_with "m cls" => first | (simp only [ne_eq, Value.type.injEq, reduceCtorEq, not_false_eq_true]; done) | (simp; done) | ((rename Obj.cls _ = Value.type "dict" => hq'); rw [hq']; simp; done)
  k_with "k ne" => first | (refine neN ?_; (try dsimp only); first | k_extra "m ne0" | omega) | exact news_ne (by with_reducible assumption) (by k_mem) (by k_mem) (by k_extra "m cls")
  k_with "k all" => exact allLt_ne (by assumption)
  k_with "m own" => (intro _ _; k_ownIn)
  k_with "m tup" => first | assumption | exact fr_tup (by with_reducible assumption) (by with_reducible assumption) | exact News.isTup (by with_reducible assumption) (by news_mem) | exact InPn.tup (by with_reducible assumption) (by with_reducible assumption) (by with_reducible assumption) (by k_extra "m own")
  k_with "m prs0" => first | exact Prs.mono (Fr.keep (by with_reducible assumption)) (by with_reducible assumption) | with_reducible assumption | exact prs_nil | exact InPn.prs (by with_reducible assumption) (by with_reducible assumption) (by with_reducible assumption) (by k_extra "m own") | k_extra "m prs"
  k_with "m off" => (repeat' first | exact List.forall_mem_nil _ | (refine in_cons ?_ ?_; k_ne))
  k_with "m offall" => (repeat' first | exact List.forall_mem_nil _ | (refine in_cons ?_ ?_; k_all))
  k_with "k inst" => exact instAt_mixed (by assumption) (by assumption) (by assumption) (by k_mem)
  k_with "m full" => first | assumption | exact FullTups.mono (Fr.keep (by with_reducible assumption)) (by assumption)
  k_with "compareOp In ref ref" => (k_here; k_dflt (refine' in_firsts (by k_extra "m list") (by k_extra "m full") (by k_extra "m tup") (by k_extra "m unit") ?_; k_whole))
  k_with "m slice" => first | (apply slice_upto; (case F => k_asm); (case N => k_asm); (case hl => k_extra "m list"); (case hz => first | assumption | omega); (case hk => assumption); (case hj => assumption); (case hs => with_unfolding_all rfl); k_whole) | (apply slice_from; (case F => k_asm); (case N => k_asm); (case hl => k_extra "m list"); (case hz => first | assumption | omega); (case hk => assumption); (case hj => assumption); (case hs => with_unfolding_all rfl); k_whole)
  k_with "subscriptTail Attribute Slice ref ref" => (k_here; k_dflt (k_extra "m slice"); intro _ _ _ _ l'; (k_lt l'); revert l'; intro _; (try k_sweep))
  k_with "subscriptTail Name Slice ref ref" => (k_here; k_dflt (k_extra "m slice"); intro _ _ _ _ l'; (k_lt l'); revert l'; intro _; (try k_sweep))
  k_with "exec While Compare" => (k_here; k_dflt (refine' while_src (by with_reducible assumption) (by passes_own) ?_))
  k_with "call ref" => (k_here; (with_reducible show wpAny _ _ (call (Value.ref 309) _) _ _ _); k_dflt (refine' far_spec (by assumption) (by k_extra "m stays") (by k_extra "m calm") ?_; intro _ _ _ _; k_extra "m kept"))
  k_with "call ref" => (k_here; (with_reducible show wpAny _ _ (call (Value.ref 328) _) _ _ _); k_dflt (refine' many_spec (by assumption) (by k_extra "m stays") (by k_extra "m calm") (by k_extra "m list") (by k_extra "m prs") (by assumption) ?_; intro _ _ _ _; k_extra "m kept"))
  k_with "call ref" => (k_here; (with_reducible show wpAny _ _ (call (Value.ref 335) _) _ _ _); k_dflt (refine' half_spec (by assumption) (by k_extra "m stays") (by k_extra "m calm") (by k_extra "m list") (by k_extra "m prs") (by assumption) ?_; intro _ _ _; k_extra "m kept"))
  k_with "call ref" => (k_here; (with_reducible show wpAny _ _ (call (Value.ref 316) _) _ _ _); (rename Fr _ _ _ _ => kF'); (rename News _ _ _ _ => kN'); k_dflt (apply draw_spec; (case C => assumption); (case hB => k_extra "m stays"); (case hA => k_extra "m calm"); (case hm => exact hm_one kN' (by k_mem) (by with_reducible assumption)); (case hbo => assumption); (case hnm => assumption); (case hcl => k_extra "m list"); (case hcb => assumption); (case hci => assumption); (case hcz => assumption); (case hmany => first | assumption | omega | (simp only [Int.reduceToNat]; omega) | decide); (case hnb => omega); intro hc tkc oc rc tc kc ec bc r0c r1c; (try simp only [Int.reduceToNat] at r1c); (rename Obj.cls _ = Value.type "dict" => hold'); (have FN' := fr_upd kF' kN' (by k_updF) kc ec); (obtain ⟨F', N'⟩ := FN'); clear kF' kN' hold'; (have dcls' := BagIs.cls bc); (try dsimp only at N'); revert hc tkc oc rc tc kc ec bc r0c r1c F' N' dcls'; intro _ _ _ _ _ _ _ _ _ _ _ _ _; (try dsimp only); (try k_fold)))
  k_with "m ints" => (repeat' (first | exact List.forall_mem_nil _ | (refine (in_cons (⟨_, _, rfl, by (try dsimp only); (try simp only [Int.reduceToNat]); omega⟩) (?_)))))
  k_with "subscriptTail" => (k_here; (with_reducible show wpAny _ _ (subscriptTail _ _ (Value.ref _) (Value.int _ _)) _ _ _); first | (apply tup_pick (fun n => 0 ≤ n ∧ n ≤ 10 ^ 15); (case ht => exact News.isTup (by with_reducible assumption) (by k_mem)); (case h0 => assumption); (case h1 => (simp only [List.length_cons, List.length_nil]; omega)); (case hz => (simp only [List.length_cons, List.length_nil]; omega)); (case hall => k_extra "m ints"); k_whole; intro _ _ px; (have px1 := px.1); (have px2 := px.2); clear px; revert px1 px2; intro _ _) | (apply tup_pick (fun n => -(10 ^ 30) ≤ n ∧ n ≤ 10 ^ 30); (case ht => exact News.isTup (by with_reducible assumption) (by k_mem)); (case h0 => assumption); (case h1 => (simp only [List.length_cons, List.length_nil]; omega)); (case hz => (simp only [List.length_cons, List.length_nil]; omega)); (case hall => k_extra "m ints"); k_whole; intro _ _ px; (have px1 := px.1); (have px2 := px.2); clear px; revert px1 px2; intro _ _))
  k_with "newTuple" => (k_here; k_dflt (refine' newTuple_L (by k_asm) (by k_asm) ?_ (by size_fits); k_whole); intro _ _ _ _ l1; (k_lt l1); revert l1; intro _; (try k_sweep))
  k_with "m om" => ((try simp only [Int.reduceToNat]); omega)
  k_with "m for enum" => (k_here; k_dflt (refine' for_enumF (by with_reducible assumption) (by with_unfolding_all rfl) ?_ (by rfl) (by with_unfolding_all rfl) (by with_unfolding_all rfl) (by rfl) (by (intro _; rfl)); k_whole))
  k_with "call type:enumerate" => (k_here; k_dflt (refine' enum_call (by k_asm) (by k_asm) (by k_extra "m list") ?_; k_whole; intro _ _ _ _ _ _ _ _ _ _ _))
  k_with "m lots" => first | assumption | exact LotsAt.mono (Fr.keep (by with_reducible assumption)) (by assumption)
  k_with "call ref" => (k_here; (with_reducible show wpAny _ _ (call (Value.ref 347) _) _ _ _); k_dflt (refine' wanted_spec (by assumption) (by k_extra "m stays") (by k_extra "m calm") (by k_extra "m list") (by k_extra "m lots") (by k_extra "m list") (by assumption) (by assumption) (by assumption) (by k_extra "m list") (by assumption) (by assumption) (by assumption) ?_; intro _ _ _ _ _; k_extra "m kept"))
  trivial
section
theorem off86 : True := by
  w_top off
  trivial
/-! ## the first two of a tuple of three -/
section
variable {prog : Program} {w : World} {A : Around} {E : Value → Shared → Prop} {s : Shared} {h₀ : Heap} {L : Addr} {m : PySem.Str → Option Value} {news : List (Addr × Obj)} {x y z : Value}
theorem first_two_at {sl : Addr} {u : Tok} {Q : Int × Int × Nat → Shared → Prop} (hs : s.heap.IsSliceOf sl .none (.int 2 u) .none) (h : Q ((0 : Int), 1, 2) s) :
    wpAny (model prog w) A (Builtin.Slice.sliceApplied (.ref sl) (pure (3 : Int))) Q E s := by
  obtain ⟨os, hos, hcs, hds⟩ := id hs
  unfold Builtin.Slice.sliceApplied Builtin.Slice.sliceFields
  refine wpAny_bind (wpAny_bind (wpAny_field hos hds (x := .none) rfl (wpAny_bind (wpAny_field hos hds (x := .int 2 u) rfl (wpAny_bind (wpAny_field hos hds (x := .none) rfl (wpAny_pure ?_)))))))
  refine wpAny_bind (slicePart_none ?_)
  show wpAny _ _ (if ((1 : Int) == 0) = true then _ else _) _ _ s
  rw [if_neg (by decide)]
  exact wpAny_bind (slicePart_none (wpAny_bind (slicePart_int (wpAny_bind (wpAny_pure (wpAny_pure h))))))
theorem first_two_get {t sl : Addr} {u : Tok} {Q : Value → Shared → Prop} (ht : IsTup s.heap t #[x, y, z]) (hs : s.heap.IsSliceOf sl .none (.int 2 u) .none)
    (h : Q (.ref s.heap.objs.size) { s with heap := s.heap.push (tupObj [x, y]) }) : wpAny (model prog w) A (getItem (.ref t) (.ref sl)) Q E s := by
  obtain ⟨os, hos, hcs, hds⟩ := id hs
  have hTs : s.TypeIs (.ref sl) "slice" := ⟨os, hos, hcs⟩
  have hsz : sizeOk (.seq #[x, y]) := by show 2 ≤ sizeLine; exact le_sizeLine (by decide)
  unfold getItem
  try with_reducible refine wpAny_holding ?_
  first | refine wpAny_bind (wpAny_pure ?_) | skip
  refine wpAny_bind (wpAny_sequenceKey ht.typeIs (by decide) ?_)
  refine wpAny_bind (wpAny_callSpecial?_slot (name := PySem.Str.ofString "__getitem__") ht.typeIs slot_tuple_getitem
    (wpAny_call_entry slot_tuple_getitem ht.typeIs entry_tuple_getitem ?_ (args_tuple_getitem _ _)))
  show wpAny _ _ (Builtin.Tuple.tupleItemsOf (.ref t) >>= _) _ _ s
  refine wpAny_bind (tupleItemsOf_ ht ?_)
  refine wpAny_bind (wpAny_typeOf hTs ?_)
  rw [if_pos (by decide)]
  refine wpAny_bind (first_two_at hs ?_)
  show wpAny _ _ (if ((0 : Int) == 0 && (1 : Int) == 1 && 2 == 3) = true then _ else _) _ _ s
  rw [if_neg (by decide)]
  first
    | exact wpAny_bind (m := Builtin.Tuple.tupleExact _) (wpAny_newObj_type (wpAny_pure ⟨_, rfl, wpAny_pure h⟩) hsz)
    | exact wpAny_bind (m := Builtin.Tuple.tupleExact _) (wpAny_newObj_type (wpAny_bind (wpAny_pure (wpAny_pure ⟨_, rfl, wpAny_pure h⟩))) hsz)
    | exact wpAny_bind (wpAny_bind (m := Builtin.Tuple.tupleExact _) (wpAny_newObj_type (wpAny_pure (wpAny_pure ⟨_, rfl, wpAny_pure h⟩)) hsz))
    | exact wpAny_bind (wpAny_bind (m := Builtin.Tuple.tupleExact _) (wpAny_newObj_type (wpAny_pure ⟨_, rfl, wpAny_pure h⟩) hsz))
theorem first_two {value slice : PySem.Expr} {t : Addr} {u : Tok} {Q : Value → Shared → Prop} (F : Fr h₀ L s.heap m) (N : News h₀ L s.heap news) (ht : IsTup s.heap t #[x, y, z])
    (h : ∀ D h', Fr h₀ L h' m → News h₀ L h' ((D, tupObj [x, y]) :: news) → (∀ p ∈ news, p.1 < D) → Q (.ref D) { s with heap := h' })
    (hs : subscripted slice false (.ref t) (.ref s.heap.objs.size) = operate [.ref s.heap.objs.size, .ref t] (getItem (.ref t) (.ref s.heap.objs.size)) := by with_unfolding_all rfl) :
    wpAny (model prog w) A (subscriptTail value slice (.ref t) (.ref s.heap.objs.size)) Q E { s with heap := s.heap.push { cls := .type "slice", data := .fields #[.none, .int 2 u, .none] } } := by
  refine kba_turn (value' := PySem.Expr.Name (PySem.Str.ofString "_") ⟨0, 0, 0, 0⟩) (fun _ => rfl) ?_
  have ht' : IsTup (s.heap.push { cls := .type "slice", data := .fields #[.none, .int 2 u, .none] }) t #[x, y, z] := ht.keeps fun _ _ e => Heap.get?_push_of_some _ e
  refine subscriptTail_ops (s := { s with heap := s.heap.push { cls := .type "slice", data := .fields #[.none, .int 2 u, .none] } }) ht'.typeIs slot_tuple_getitem.lookup
    (first_two_get ht' (Heap.IsSliceOf.new ..) ?_) hs (fun _ => rfl)
  have N1 := News.push (F.push { cls := .type "slice", data := .fields #[.none, .int 2 u, .none] }) (N.grown fun _ _ e => Heap.get?_push_of_some _ e) (tupObj [x, y])
  exact h _ _ ((F.push _).push _) N1 fun p hp => by
    have := Heap.lt_size (N p hp).1
    show @LT.lt Nat _ p.1 (Heap.objs (s.heap.push _)).size
    rw [Heap.size_push]; exact Nat.lt_succ_of_lt this
end
theorem eq_lits {prog : Program} {w : World} {A : Around} {E : Value → Shared → Prop} {s : Shared} {p q : Addr} {a : Int} {t t' u u' : Tok} {Q : Value → Shared → Prop} (hx : IsTup s.heap p #[.int a t, .str (Str.ofString "=") u]) (hy : IsTup s.heap q #[.int a t', .str (Str.ofString "=") u']) (hu : A.units + 64 < cLine) (h : Q (.bool true) s) :
    wpAny (model prog w) A (compareOp .Eq (.ref p) (.ref q)) Q E s := by
  obtain ⟨o, ho, hc, n, hdt⟩ := hx
  obtain ⟨o2, ho2, hc2, n2, hdt2⟩ := hy
  have ra : Reads s.heap (.ref p) (.tuple [.int a, .str (Str.ofString "=")]) _ := .tuple ho hc hdt (.cons (.int _ _) (.cons (.str _ _) .nil))
  have rb : Reads s.heap (.ref q) (.tuple [.int a, .str (Str.ofString "=")]) _ := .tuple ho2 hc2 hdt2 (.cons (.int _ _) (.cons (.str _ _) .nil))
  have sh : SeqAt.shaped (.tuple [.int a, .str (Str.ofString "=")]) = true := by simp [SeqAt.shaped, PyData.canLay0, PyData.canLayAll0, PyData.depth, PyData.depthAll]; decide +kernel
  refine SeqAt.compareEq_shaped ra rb sh sh hu ?_
  have e : PyData.eqv (.tuple [.int a, .str (Str.ofString "=")]) (.tuple [.int a, .str (Str.ofString "=")]) = true := by simp [PyData.eqv, PyData.eqvAll]
  rw [e]; exact h
theorem own86_1 : True := by
  k_with "subscriptTail Name Slice ref ref" => (k_here; k_dflt (apply first_two; (case F => k_asm); (case N => k_asm); (case ht => k_extra "m tup"); (case hs => with_unfolding_all rfl); k_whole); intro _ _ _ _ l'; (k_lt l'); revert l'; intro _; (try k_sweep))
  k_with "compareOp Eq ref ref" => (k_here; k_dflt (refine' eq_lits (by exact News.isTup (by with_reducible assumption) (by k_mem)) (by exact News.isTup (by with_reducible assumption) (by k_mem)) (by k_extra "m unit") ?_; k_whole))
  trivial
section
variable {w : World} {mean : ExcName → Option Value} {mg mb : PySem.Str → Option Value} {B : Heap} {A : Around} {s : Shared} {Q E : Value → Shared → Prop}
  {a : Addr} {vs : List Value} {D dl : Addr} {hs : Nat → Int} {ts : Nat → Tok} {vf vt vm vn vsp vi vc : Value} {n : Nat}
  {b Db : Addr} {hs' : Nat → Int} {ts' : Nat → Tok} {sa : Addr} {vals : List Value} {o : Nat} {to tc : Tok} {dg : Addr} {f : Int → Option Value} {n' : Nat}
  {doms : List Rng} {row : List Nat} {deg : Nat → Int}
set_option pp.deepTerms false
set_option pp.deepTerms.threshold 3
theorem choose_none (C : Core w mean mg mb B) (hB : Stays B s.heap) (hA : Calm A 6) (hz : nextOf doms o deg row = -1) (hD : DeskR s.heap a vs D dl hs ts vf vt vm vn vsp vi vc n) (hR : BrR w s.heap b Db hs' ts' sa vals o to tc dg f n') (ho : o < 5)
  (hv : VarsAt s.heap vs doms) (hdeg : DegsAt f deg doms.length) (hrow : RowIs vals row) (hin : ∀ x ∈ row, x < doms.length) (hmany : doms.length ≤ 1000)
  (hret : ∀ h' tk', Stays s.heap h' → Q .none {s with heap := h', toks := tk'}) :
  wpAny (model PR w) A (call (.ref 63) [.ref b, .ref a]) Q E s :=
  choose_spec C hB hA hD hR ho hv hdeg hrow hin hmany fun h' tk' v k c => by
    rcases c with ⟨_, rfl⟩ | ⟨x, _, _, _, _, e, _⟩
    · exact hret _ _ k
    · rw [hz] at e; omega
theorem choose_some {x : Nat} (C : Core w mean mg mb B) (hB : Stays B s.heap) (hA : Calm A 6) (hz : nextOf doms o deg row = (x : Int)) (hxr : x < doms.length) (hD : DeskR s.heap a vs D dl hs ts vf vt vm vn vsp vi vc n) (hR : BrR w s.heap b Db hs' ts' sa vals o to tc dg f n') (ho : o < 5)
  (hv : VarsAt s.heap vs doms) (hdeg : DegsAt f deg doms.length) (hrow : RowIs vals row) (hin : ∀ x ∈ row, x < doms.length) (hmany : doms.length ≤ 1000)
  (hret : ∀ h' tk' p t1 t2 t3, Stays s.heap h' → s.heap.get? p = none → h'.get? p = some (tupObj [.int (x : Int) t1, .str (Str.ofString "=") t2, .int (medianOf (doms.getD x [])) t3]) → Q (.ref p) {s with heap := h', toks := tk'}) :
  wpAny (model PR w) A (call (.ref 63) [.ref b, .ref a]) Q E s := by
  have hbi := hR.inst
  have hbd := hR.dict
  have hi := hD.inst
  have hdd := hD.dict
  have hdx : doms[x]? = some (doms.getD x []) := by rw [List.getD_eq_getElem?_getD, List.getElem?_eq_getElem hxr]; rfl
  obtain ⟨d, items, hvx, hid, hip, hine, hiz⟩ := hv.2 x _ hdx
  have hxf : x < 2 ^ 62 := by omega
  have hz' := hz
  k_extra "m enter0"
  k_steps
  exact hret _ _ _ _ _ _ (Fr.keep (by assumption)) (News.fresh (by assumption) (.head _)) (News.get (by assumption) (.head _))
end
theorem own86_2 : True := by
  k_with "call ref" => (k_here; (with_reducible show wpAny _ _ (call (Value.ref 63) _) _ _ _); k_dflt first | (apply choose_none; (case C => assumption); (case hB => k_extra "m stays"); (case hA => k_extra "m calm"); (case hz => with_reducible assumption); (case hD => k_extra "m desk"); (case hR => k_extra "m br"); (case ho => assumption); (case hv => k_extra "m vars"); (case hdeg => assumption); (case hrow => assumption); (case hin => assumption); (case hmany => assumption); intro _ _ _; k_extra "m kept") | (apply choose_some; (case C => assumption); (case hB => k_extra "m stays"); (case hA => k_extra "m calm"); (case hz => with_reducible assumption); (case hxr => with_reducible assumption); (case hD => k_extra "m desk"); (case hR => k_extra "m br"); (case ho => assumption); (case hv => k_extra "m vars"); (case hdeg => assumption); (case hrow => assumption); (case hin => assumption); (case hmany => assumption); intro _ _ _ _ _ _ kc fc oc; (rename Fr _ _ _ _ => kF'); (rename News _ _ _ _ => kN'); (have F' := Fr.keeps kF' kc); (have N' := news_fresh kF' kN' kc fc oc); clear kF' kN'; revert kc fc oc F' N'; intro _ _ _ _ _; (try dsimp only); (try k_fold)))
  k_with "exec For Name Call cons nil" => k_extra "m for range"
  trivial
section
variable {w : World} {mean : ExcName → Option Value} {mg mb : PySem.Str → Option Value} {B : Heap} {A : Around} {s : Shared} {Q E : Value → Shared → Prop}
  {a : Addr} {vs : List Value} {D dl : Addr} {hs : Nat → Int} {ts : Nat → Tok} {vf vt vm vn vsp vi vc : Value} {n : Nat}
  {b Db : Addr} {hs' : Nat → Int} {ts' : Nat → Tok} {sa : Addr} {vals : List Value} {o : Nat} {to tc : Tok} {dg : Addr} {f : Int → Option Value} {n' : Nat}
  {doms : List Rng} {row : List Nat} {deg : Nat → Int}
set_option pp.deepTerms false
set_option pp.deepTerms.threshold 3
theorem place_spec {ll : Addr} {lv : List Value} {wv : Value} (C : Core w mean mg mb B) (hB : Stays B s.heap) (hA : Calm A 8) (hD : DeskR s.heap a vs D dl hs ts vf vt vm vn vsp vi vc n) (hR : BrR w s.heap b Db hs' ts' sa vals o to tc dg f n') (ho : o < 5)
  (hv : VarsAt s.heap vs doms) (hdeg : DegsAt f deg doms.length) (hrow : RowIs vals row) (hin : ∀ x ∈ row, x < doms.length) (hmany : doms.length ≤ 1000)
  (hl : s.heap.IsList ll lv.toArray) (hlots : LotsAt s.heap lv doms) (hz : (wv = .none ∧ nextOf doms o deg row = -1) ∨ ∃ (x : Nat) (t : Tok), wv = .int (x : Int) t ∧ nextOf doms o deg row = (x : Int) ∧ x < doms.length) (hhalf : ∀ (x : Nat) rs, doms[x]? = some rs → halfOf rs (medianOf rs) = true)
  (hret : ∀ h' tk', Stays s.heap h' → Q (.bool true) {s with heap := h', toks := tk'}) :
  wpAny (model PR w) A (call (.ref 354) [.ref b, .ref a, .ref ll, wv]) Q E s := by
  have hll : lv.length ≤ 1000 := by rw [hlots.1]; exact hmany
  have hbi := hR.inst
  have hbd := hR.dict
  have hdi := hD.inst
  have hdd := hD.dict
  k_extra "m enter0"
  k_steps
  rename Fr _ _ _ _ => F3
  rename News _ _ _ _ => N3
  refine with_map F3 fun m0 em0 F4 => ?_
  refine ⟨_, lv.length, _, _, _, fun i m news => ∃ u1, m = ov [(Str.ofString "x", u1)] m0 ∧ news = [], _, _, rfl, by assumption, hll, F3, N3, ⟨m0 (Str.ofString "x"), (by subst em0; exact ov_eq _ (by k_extra "m in") (by k_extra "m out")), rfl⟩, ?_, ?_⟩
  · rintro x h tk m I oI news ti E' hi ⟨u1, rfl, rfl⟩ F5 N5 hne5
    subst em0
    clear F3 F4 N3
    have hxm : x < doms.length := by rw [← hlots.1]; exact hi
    have hdx : doms[x]? = some (doms.getD x []) := by rw [List.getD_eq_getElem?_getD, List.getElem?_eq_getElem hxm]; rfl
    obtain ⟨d, items, hvx, hid, hip, hine, hiz⟩ := hlots.2 x _ hdx
    obtain ⟨d2, items2, hvx2, hid2, hip2, _, _⟩ := hv.2 x _ hdx
    have hxf : x < 2 ^ 62 := by omega
    have hh := hhalf x _ hdx
    have hitz : items.length ≤ sizeLine := by rw [hip.length]; exact le_sizeLine hiz
    k_steps
    · exact absurd rfl (by assumption : doms.getD x [] ≠ doms.getD x [])
    · exact ⟨_, _, _, _, [], rfl, by assumption, by assumption, by k_extra "m sub", (fun _ q => nomatch q), (fun _ q => nomatch q), ⟨_, ov_eq _ (by k_extra "m in") (by k_extra "m out"), rfl⟩⟩
  · rintro h tk m news ⟨u1, rfl, rfl⟩ F5 N5
    subst em0
    clear F3 F4 N3
    rcases hz with ⟨rfl, hz⟩ | ⟨x, t, rfl, hz, hxm⟩
    · k_steps
      dsimp only
      exact hret _ _ (Fr.keep (by assumption))
    · have hdx : doms[x]? = some (doms.getD x []) := by rw [List.getD_eq_getElem?_getD, List.getElem?_eq_getElem hxm]; rfl
      obtain ⟨d, items, hvx, hid, hip, hine, hiz⟩ := hlots.2 x _ hdx
      have hxf : x < 2 ^ 62 := by omega
      have hh := hhalf x _ hdx
      k_steps
      rw [hh]
      exact hret _ _ (Fr.keep (by assumption))
end

end
theorem rows86 : True := by
  k_with_none
  k_with "m mem" => first | exact mem0 | exact mem1 | exact mem2 | exact mem3 | (refine' mem4 ?_; k_extra "m mem")
  k_with "k ne" => (refine neN ?_; (try dsimp only); k_extra "m ne0")
  k_with "m lt0" => first | with_reducible assumption | (refine lt_from (by with_reducible assumption) ?_; intro hh; first | exact hh.1 | exact hh.2 | exact hh.2.1 | exact hh.2.2 | exact hh.2.2.1 | exact hh.2.2.2 | exact hh.2.2.2.1 | exact hh.2.2.2.2 | exact hh.2.2.2.2.1 | exact hh.2.2.2.2.2 | exact hh.2.2.2.2.2.1 | exact hh.2.2.2.2.2.2 | exact hh.2.2.2.2.2.2.1 | exact hh.2.2.2.2.2.2.2 | exact hh.2.2.2.2.2.2.2.1 | exact hh.2.2.2.2.2.2.2.2 | exact hh.2.2.2.2.2.2.2.2.1 | exact hh.2.2.2.2.2.2.2.2.2 | exact hh.2.2.2.2.2.2.2.2.2.1 | exact hh.2.2.2.2.2.2.2.2.2.2 | exact hh.2.2.2.2.2.2.2.2.2.2.1 | exact hh.2.2.2.2.2.2.2.2.2.2.2 | exact hh.2.2.2.2.2.2.2.2.2.2.2.1 | exact hh.2.2.2.2.2.2.2.2.2.2.2.2 | exact hh.2.2.2.2.2.2.2.2.2.2.2.2.1 | exact hh.2.2.2.2.2.2.2.2.2.2.2.2.2 | exact hh.2.2.2.2.2.2.2.2.2.2.2.2.2.1 | exact hh.2.2.2.2.2.2.2.2.2.2.2.2.2.2 | exact hh.2.2.2.2.2.2.2.2.2.2.2.2.2.2.1 | exact hh.2.2.2.2.2.2.2.2.2.2.2.2.2.2.2 | exact hh.2.2.2.2.2.2.2.2.2.2.2.2.2.2.2.1 | exact hh.2.2.2.2.2.2.2.2.2.2.2.2.2.2.2.2 | exact hh.2.2.2.2.2.2.2.2.2.2.2.2.2.2.2.2.1 | exact hh.2.2.2.2.2.2.2.2.2.2.2.2.2.2.2.2.2 | exact hh.2.2.2.2.2.2.2.2.2.2.2.2.2.2.2.2.2.1 | exact hh.2.2.2.2.2.2.2.2.2.2.2.2.2.2.2.2.2.2 | exact hh.2.2.2.2.2.2.2.2.2.2.2.2.2.2.2.2.2.2.1 | exact hh.2.2.2.2.2.2.2.2.2.2.2.2.2.2.2.2.2.2.2 | exact hh.2.2.2.2.2.2.2.2.2.2.2.2.2.2.2.2.2.2.2.1 | exact hh.2.2.2.2.2.2.2.2.2.2.2.2.2.2.2.2.2.2.2.2 | exact hh.2.2.2.2.2.2.2.2.2.2.2.2.2.2.2.2.2.2.2.2.1 | exact hh.2.2.2.2.2.2.2.2.2.2.2.2.2.2.2.2.2.2.2.2.2 | exact hh.2.2.2.2.2.2.2.2.2.2.2.2.2.2.2.2.2.2.2.2.2.1 | exact hh.2.2.2.2.2.2.2.2.2.2.2.2.2.2.2.2.2.2.2.2.2.2)
  k_with "m lt" => first | k_extra "m lt0" | omega
  k_with "m ne0" => first | with_reducible assumption | exact Ne.symm (by with_reducible assumption) | exact Nat.ne_of_lt (by k_extra "m lt0") | exact Nat.ne_of_gt (by k_extra "m lt0")
  k_with "m fill" => (have hfill : Challenge.rw_pq0372_01 = Challenge.rw_pq0372_01 ∧ KF = KF := (by k_fill; exact ⟨rfl, rfl⟩); clear hfill)
  k_with "m around" => ((rename Around => mA'); (rcases mA' with ⟨_, _, _, _, _⟩); (have mE' := Calm.hh (by with_reducible assumption)); (dsimp only at mE'); subst mE')
  k_with "m enter0" => (k_extra "m around"; k_extra "m fill"; refine wpAny_call ?_; k_dflt (refine' enter0 (by assumption) (by assumption) (by assumption) (by k_is) (by k_is) (by exact BindsTo.of_eq rfl) (by exact locs rfl) ?_ (by exact rfl) (by exact rfl) (by exact rfl) (by decide); k_whole; intro _ _ _ _ _ _ _ _ _; (try dsimp only); (try k_fold)))
  k_with "m enterC0" => (k_extra "m around"; k_extra "m fill"; refine wpAny_call ?_; k_dflt (refine' enterC0 (by assumption) (by assumption) (by assumption) (by k_is) (by k_is) (by exact BindsTo.of_eq rfl) (by rfl) (by decide) ?_ (by exact rfl) (by exact rfl) (by exact rfl); k_whole; intro _ _ _ _ _ _ _ _ _ _ _; (try dsimp only); (try k_fold)))
  k_with "m cell1" => ((rename CellsAre _ _ _ => mY'); (with_unfolding_all have mY2' := CellsAre.one mY'); (obtain ⟨_, me', _⟩ := mY2'); (subst me'); clear mY')
  k_with "m cell2" => ((rename CellsAre _ _ _ => mY'); (with_unfolding_all have mY2' := CellsAre.two mY'); (obtain ⟨_, _, me', _, _⟩ := mY2'); (subst me'); clear mY')
  k_with "m tup" => first | assumption | exact fr_tup (by with_reducible assumption) (by with_reducible assumption) | exact News.isTup (by with_reducible assumption) (by news_mem)
  k_with "m list" => first | assumption | exact fr_list (by with_reducible assumption) (by with_reducible assumption) | exact News.isList (by with_reducible assumption) (by news_mem)
  k_with "call builtin:len" => (k_here; (with_reducible show wpAny _ _ (call (Value.builtin "len") [Value.ref _]) _ _ _); k_dflt first | (refine' len_tup (by k_extra "m tup") (by first | assumption | (with_reducible decide) | omega | (simp only [List.length_append, List.length_cons, List.length_nil]; first | decide | omega)) ?_; k_whole; intro _ _) | (refine' len_lst (by k_extra "m list") (by first | assumption | (with_reducible decide) | omega | (simp only [List.length_append, List.length_cons, List.length_nil]; first | decide | omega)) ?_; k_whole; intro _ _))
  k_with "subscriptTail" => (k_here; (with_reducible show wpAny _ _ (subscriptTail _ _ (Value.ref _) (Value.int (-1) _)) _ _ _); (with_unfolding_all refine' tup_last (by k_extra "m tup") (by first | assumption | rfl) ?_ (by with_unfolding_all rfl); k_whole))
  k_with "subscriptTail" => (k_here; (with_reducible show wpAny _ _ (subscriptTail _ _ (Value.ref _) (Value.int _ _)) _ _ _); (with_unfolding_all apply tup_at); (case ht => k_extra "m tup"); (first | ((case hk => with_unfolding_all rfl); (case hx => first | assumption | rfl)) | ((case hx => assumption); (case hk => omega))); (case hf => first | decide | omega); (case hs => with_unfolding_all rfl); k_whole)
  k_with "subscriptTail" => (k_here; (with_reducible show wpAny _ _ (subscriptTail _ _ (Value.ref _) (Value.int _ _)) _ _ _); (with_unfolding_all apply list_at); (case ht => k_extra "m list"); (first | ((case hk => with_unfolding_all rfl); (case hx => first | assumption | rfl)) | ((case hx => assumption); (case hk => omega))); (case hf => first | decide | omega); (case hs => with_unfolding_all rfl); k_whole)
  k_with "k inst" => exact instAt_base (by assumption) (by assumption) (by assumption)
  k_with "m stays" => first | with_reducible assumption | exact stays_fr (by with_reducible assumption) (by with_reducible assumption)
  k_with "m calm" => exact Calm.le (by assumption) (by decide)
  k_with "m kept" => ((rename Fr _ _ _ _ => kF'); (rename News _ _ _ _ => kN'); (refine kept_of (by with_reducible assumption) kF' kN' ?_); clear kF' kN'; intro _ _; (try dsimp only); (try k_fold))
  k_with "eval Name" => ((with_reducible show wpAny _ _ (eval (Expr.Name _ _) (compEnvC _ _ _ _)) _ _ _); k_dflt first | (apply comp_local; (case F => with_reducible assumption); (case hk => rfl); (case hl => with_unfolding_all rfl); (case hd => decide); (case hm => first | with_reducible assumption | with_unfolding_all rfl); k_whole) | (apply comp_cell; (case F => with_reducible assumption); (case hk => rfl); (case hl => with_unfolding_all rfl); (case hd => decide); (case hc => with_unfolding_all rfl); (case ho => assumption); (case hv => with_reducible assumption); k_whole) | (apply comp_builtin; (case F => with_reducible assumption); (case T => with_reducible assumption); (case k => with_reducible assumption); (case hg => rfl); (case hb => rfl); (case hk => rfl); (case hx => with_unfolding_all rfl); (case hd => decide); (case h2 => first | exact mb_max (by with_reducible assumption) | exact mb_min (by with_reducible assumption)); (case h1 => first | exact mg_max (by with_reducible assumption) | exact mg_min (by with_reducible assumption)); k_whole))
  k_with "call builtin:max" => ((with_reducible show wpAny _ _ (call (Value.builtin _) [Value.int _ _, Value.int _ _]) _ _ _); k_dflt (refine' comp_max (by with_reducible assumption) (by first | exact Calm.hh (by assumption) | with_unfolding_all rfl) ?_; k_whole; intro _ _ _ _ _))
  k_with "call builtin:min" => ((with_reducible show wpAny _ _ (call (Value.builtin _) [Value.int _ _, Value.int _ _]) _ _ _); k_dflt (refine' comp_min (by with_reducible assumption) (by first | exact Calm.hh (by assumption) | with_unfolding_all rfl) ?_; k_whole; intro _ _ _ _ _))
  k_with "newTuple" => (k_dflt (refine' comp_tuple (by with_reducible assumption) ?_ (by rfl); k_whole; intro _ _ _ _))
  k_with "call type:tuple" => ((with_reducible show wpAny _ _ (call (Value.type _) [Value.ref _]) _ _ _); k_dflt (refine' tuple_of (by with_reducible assumption) (by with_reducible assumption) (by k_extra "m list") (by first | assumption | omega) ?_; k_whole; intro _ _ _ _ _ _))
  k_with "call ref" => (k_here; (with_reducible show wpAny _ _ (call (Value.ref 77) _) _ _ _); k_dflt (refine' least_spec (by assumption) (by k_extra "m stays") (by k_extra "m calm") (by k_extra "m tup") (by assumption) (by k_extra "m tup") ?_; intro _ _ _ _; k_extra "m kept"))
  k_with "call ref" => (k_here; (with_reducible show wpAny _ _ (call (Value.ref 84) _) _ _ _); k_dflt (refine' greatest_spec (by assumption) (by k_extra "m stays") (by k_extra "m calm") (by k_extra "m tup") (by assumption) (by k_extra "m tup") ?_; intro _ _ _ _; k_extra "m kept"))
  k_with "call ref" => (k_here; (with_reducible show wpAny _ _ (call (Value.ref 183) _) _ _ _); k_dflt (refine' dom_spec (by assumption) (by k_extra "m stays") (by k_extra "m calm") (by k_extra "m desk") (by assumption) (by assumption) ?_; intro _ _ _; k_extra "m kept"))
  k_with "call ref" => (k_here; (with_reducible show wpAny _ _ (call (Value.ref 197) _) _ _ _); k_dflt (refine' low_spec (by assumption) (by k_extra "m stays") (by k_extra "m calm") (by k_extra "m desk") (by assumption) (by assumption) (by k_extra "m tup") (by assumption) (by k_extra "m tup") ?_; intro _ _ _ _; k_extra "m kept"))
  k_with "call ref" => (k_here; (with_reducible show wpAny _ _ (call (Value.ref 204) _) _ _ _); k_dflt (refine' high_spec (by assumption) (by k_extra "m stays") (by k_extra "m calm") (by k_extra "m desk") (by assumption) (by assumption) (by k_extra "m tup") (by assumption) (by k_extra "m tup") ?_; intro _ _ _ _; k_extra "m kept"))
  k_with "call ref" => (k_here; (with_reducible show wpAny _ _ (call (Value.ref 89) _) _ _ _); k_dflt (refine' size_spec (by assumption) (by k_extra "m stays") (by k_extra "m calm") (by k_extra "m tup") (by first | assumption | exact Prs.mono (Fr.keep (by with_reducible assumption)) (by with_reducible assumption)) (by assumption) ?_; intro _ _ _ _; k_extra "m kept"))
  k_with "m prs" => first | with_reducible assumption | exact Prs.mono (Fr.keep (by with_reducible assumption)) (by with_reducible assumption)
  k_with "call ref" => (k_here; (with_reducible show wpAny _ _ (call (Value.ref 108) _) _ _ _); k_dflt (refine' upTo_spec (by assumption) (by k_extra "m stays") (by k_extra "m calm") (by k_extra "m tup") (by k_extra "m prs") (by assumption) ?_; intro _ _ _ kc dc; (obtain ⟨ac, vc, ec, tc, pc⟩ := dc); subst ec; revert kc ac vc tc pc; intro _ _ _ _ _; k_extra "m kept"))
  k_with "call ref" => (k_here; (with_reducible show wpAny _ _ (call (Value.ref 113) _) _ _ _); k_dflt (refine' fromOn_spec (by assumption) (by k_extra "m stays") (by k_extra "m calm") (by k_extra "m tup") (by k_extra "m prs") (by assumption) ?_; intro _ _ _ kc dc; (obtain ⟨ac, vc, ec, tc, pc⟩ := dc); subst ec; revert kc ac vc tc pc; intro _ _ _ _ _; k_extra "m kept"))
  k_with "call ref" => (k_here; (with_reducible show wpAny _ _ (call (Value.ref 120) _) _ _ _); k_dflt (refine' without_spec (by assumption) (by k_extra "m stays") (by k_extra "m calm") (by k_extra "m tup") (by k_extra "m prs") (by assumption) ?_; intro _ _ _ kc dc; (obtain ⟨ac, vc, ec, tc, pc⟩ := dc); subst ec; revert kc ac vc tc pc; intro _ _ _ _ _; k_extra "m kept"))
  k_with "call ref" => (k_here; (with_reducible show wpAny _ _ (call (Value.ref 141) _) _ _ _); k_dflt (refine' struck_spec (by assumption) (by k_extra "m stays") (by k_extra "m calm") (by assumption) (by first | assumption | exact LitAt.mono (Fr.keep (by with_reducible assumption)) (by with_reducible assumption)) (by k_extra "m tup") (by k_extra "m prs") (by assumption) ?_; intro _ _ _ kc dc; (obtain ⟨ac, vc, ec, tc, pc⟩ := dc); subst ec; revert kc ac vc tc pc; intro _ _ _ _ _; k_extra "m kept"))
  k_with "m desk" => first | assumption | exact DeskR.mono (Fr.keep (by with_reducible assumption)) (by assumption) | exact DeskR.mono (by with_reducible assumption) (by assumption)
  k_with "call ref" => (k_here; (with_reducible show wpAny _ _ (call (Value.ref 232) _) _ _ _); k_dflt (refine' width_spec (by assumption) (by k_extra "m stays") (by k_extra "m calm") (by k_extra "m desk") (by assumption) (by assumption) (by k_extra "m tup") (by k_extra "m prs") (by assumption) ?_; intro _ _ _ _; k_extra "m kept"))
  k_with "call ref" => (k_here; (with_reducible show wpAny _ _ (call (Value.ref 218) _) _ _ _); k_dflt (refine' is_fixed_spec (by assumption) (by k_extra "m stays") (by k_extra "m calm") (by k_extra "m desk") (by assumption) (by assumption) (by k_extra "m tup") (by k_extra "m prs") (by assumption) (by assumption) ?_; intro _ _ _; k_extra "m kept"))
  k_with "m in" => (repeat' (first | exact List.forall_mem_nil _ | (refine in_cons ?_ ?_; (with_unfolding_all rfl))))
  k_with "m out" => (intro my' mhy'; (repeat' first | (with_reducible exact rfl) | refine out_mem mhy' (by with_reducible k_extra "m mem") ?_ | refine out_rmem mhy' (by with_reducible k_extra "m mem") ?_ | refine out_same mhy' ?_ _ (by rfl) | refine out_ov mhy' ?_ _ (by kernel_rfl)))
  k_with "m sub" => (intro mp' mhp'; (simp only [List.mem_cons, List.not_mem_nil, or_false, List.mem_append] at mhp' ⊢); (first | exact mhp' | (rcases mhp' with mhp' | mhp' <;> simp [mhp']) | simp [mhp']))
  k_with "m for range" => (k_here; k_dflt (refine' for_rangeF (by with_reducible assumption) (by with_unfolding_all rfl) ?_ (by rfl) (by with_unfolding_all rfl) (by rfl) (by (intro _; rfl)); k_whole))
  k_with "m for tup" => (k_here; k_dflt (refine' for_tupF (by with_reducible assumption) (by with_unfolding_all rfl) ?_ (by rfl) (by with_unfolding_all rfl) (by rfl) (by (intro _; rfl)); k_whole))
  k_with "m for pairs" => (k_here; k_dflt (refine' for_pairsF (by with_reducible assumption) (by with_unfolding_all rfl) ?_ (by rfl) (by with_unfolding_all rfl) (by with_unfolding_all rfl) (by rfl) (by (intro _; rfl)); k_whole))
  k_with "call ref" => (k_here; (with_reducible show wpAny _ _ (call (Value.ref 56) _) _ _ _); k_dflt (refine' median_spec (by assumption) (by k_extra "m stays") (by k_extra "m calm") (by k_extra "m desk") (by assumption) (by assumption) (by k_extra "m tup") (by k_extra "m prs") (by assumption) (by assumption) ?_; intro _ _ _ _; k_extra "m kept"))
  k_with "m map" => first | assumption | exact fr_map (by with_reducible assumption) (by with_reducible assumption)
  k_with "m br" => first | assumption | exact BrR.mono (Fr.keep (by with_reducible assumption)) (by assumption) | exact BrR.mono (by with_reducible assumption) (by assumption)
  k_with "call ref" => (k_here; (with_reducible show wpAny _ _ (call (Value.ref 42) _) _ _ _); k_dflt (refine' rank_spec (by assumption) (by k_extra "m stays") (by k_extra "m calm") (by k_extra "m desk") (by k_extra "m br") (by assumption) (by assumption) (by assumption) (by assumption) (by k_extra "m tup") (by k_extra "m prs") (by assumption) (by assumption) ?_; intro _ _ _ _ _ kc fc oc; (rename Fr _ _ _ _ => kF'); (rename News _ _ _ _ => kN'); (have F' := Fr.keeps kF' kc); (have N' := news_fresh kF' kN' kc fc oc); clear kF' kN'; revert kc fc oc F' N'; intro _ _ _ _ _; (try dsimp only); (try k_fold)))
  k_with "m vars" => first | assumption | exact VarsAt.mono (Fr.keep (by with_reducible assumption)) (by assumption) | exact VarsAt.mono (by with_reducible assumption) (by assumption)
  k_with "call ref" => (k_here; (with_reducible show wpAny _ _ (call (Value.ref 49) _) _ _ _); k_dflt (refine' next_spec' (by assumption) (by k_extra "m stays") (by k_extra "m calm") (by k_extra "m desk") (by k_extra "m br") (by assumption) (by k_extra "m vars") (by assumption) (by assumption) (by assumption) (by assumption) (by assumption) ?_; intro _ _ _ _; k_extra "m kept"))
  k_with "call ref" => (k_here; (with_reducible show wpAny _ _ (call (Value.ref 63) _) _ _ _); k_dflt (refine' choose_spec (by assumption) (by k_extra "m stays") (by k_extra "m calm") (by k_extra "m desk") (by k_extra "m br") (by assumption) (by k_extra "m vars") (by assumption) (by assumption) (by assumption) (by assumption) ?_; intro _ _ _ _ _; k_extra "m kept"))
  k_with "m unit" => first | exact Calm.u1 (by with_reducible assumption)
  k_with "m prs0" => first | exact Prs.mono (Fr.keep (by with_reducible assumption)) (by with_reducible assumption) | with_reducible assumption | exact prs_nil | k_extra "m prs"
  k_with "compareOp Eq ref ref" => (k_here; k_dflt (refine' eq_doms (by k_extra "m tup") (by k_extra "m prs0") (by k_extra "m tup") (by k_extra "m prs0") (by k_extra "m unit") ?_; k_whole))
  k_with "compareOp NotEq ref ref" => (k_here; k_dflt first | (apply ne_nil; (case hy => k_extra "m list"); (case hx => k_extra "m list"); (case hu => exact Calm.u (by with_reducible assumption)); k_whole) | (apply ne_doms; (case hx => k_extra "m tup"); (case px => k_extra "m prs0"); (case hy => k_extra "m tup"); (case py => k_extra "m prs0"); (case hu => k_extra "m unit"); k_whole))
  k_with "call builtin:list.append" => (k_here; (with_reducible show wpAny _ _ (call (Value.builtin _) [Value.ref _, _]) _ _ _); k_dflt (refine' append_L (by k_asm) (by k_asm) (by k_upd) (by first | assumption | omega | (simp only [List.length_append, List.length_cons, List.length_nil]; omega)) ?_; k_whole); intro _ _ N'; (try dsimp only [List.nil_append, List.cons_append] at N'); revert N'; intro _; (try k_sweep))
  k_with "m enter" => (k_extra "m around"; k_extra "m fill"; refine wpAny_call ?_; k_dflt (refine' enter _ (by assumption) (by assumption) (by assumption) (by assumption) (by k_is) (by k_is) (by exact BindsTo.of_eq rfl) (by exact locs rfl) ?_ (by exact rfl) (by exact rfl) (by exact rfl) (by decide); k_whole; intro _ _ _ _ _ _ _ _ _ _ _ _ _ _; (try dsimp only); (try k_fold)))
  k_with "setItem ref int" => (k_here; k_dflt (apply set_L; (case F => k_asm); (case N => k_asm); (case U => k_upd); (case hx => assumption); (case hz => assumption); k_whole); intro _ _ N'; (try dsimp only [List.nil_append, List.cons_append] at N'); revert N'; intro _)
  k_with "setItem ref int" => (k_here; k_dflt (refine' setD_L (by k_asm) (by k_asm) (by k_updF) (by assumption) (by assumption) ?_; k_whole); intro _ _ _ _ _ N'; (try dsimp only [List.nil_append, List.cons_append] at N'); revert N'; intro _)
  k_with "call builtin:list.pop" => (k_here; (with_reducible show wpAny _ _ (call (Value.builtin _) [Value.ref _]) _ _ _); k_dflt (apply pop_L; (case F => k_asm); (case N => k_asm); (case U => k_upd); (case hz => assumption); k_whole); intro _ _ N'; (try dsimp only [List.nil_append, List.cons_append] at N'); revert N'; intro _)
  k_with "m cls" => first | (simp only [ne_eq, Value.type.injEq, reduceCtorEq, not_false_eq_true]; done) | (simp; done) | ((rename Obj.cls _ = Value.type "dict" => hq'); rw [hq']; simp; done)
  k_with "k ne" => first | (refine neN ?_; (try dsimp only); first | k_extra "m ne0" | omega) | exact news_ne (by with_reducible assumption) (by k_mem) (by k_mem) (by k_extra "m cls")
  k_with "k all" => exact allLt_ne (by assumption)
  k_with "m own" => (intro _ _; k_ownIn)
  k_with "m tup" => first | assumption | exact fr_tup (by with_reducible assumption) (by with_reducible assumption) | exact News.isTup (by with_reducible assumption) (by news_mem) | exact InPn.tup (by with_reducible assumption) (by with_reducible assumption) (by with_reducible assumption) (by k_extra "m own")
  k_with "m prs0" => first | exact Prs.mono (Fr.keep (by with_reducible assumption)) (by with_reducible assumption) | with_reducible assumption | exact prs_nil | exact InPn.prs (by with_reducible assumption) (by with_reducible assumption) (by with_reducible assumption) (by k_extra "m own") | k_extra "m prs"
  k_with "m off" => (repeat' first | exact List.forall_mem_nil _ | (refine in_cons ?_ ?_; k_ne))
  k_with "m offall" => (repeat' first | exact List.forall_mem_nil _ | (refine in_cons ?_ ?_; k_all))
  k_with "k inst" => exact instAt_mixed (by assumption) (by assumption) (by assumption) (by k_mem)
  k_with "m full" => first | assumption | exact FullTups.mono (Fr.keep (by with_reducible assumption)) (by assumption)
  k_with "compareOp In ref ref" => (k_here; k_dflt (refine' in_firsts (by k_extra "m list") (by k_extra "m full") (by k_extra "m tup") (by k_extra "m unit") ?_; k_whole))
  k_with "m slice" => first | (apply slice_upto; (case F => k_asm); (case N => k_asm); (case hl => k_extra "m list"); (case hz => first | assumption | omega); (case hk => assumption); (case hj => assumption); (case hs => with_unfolding_all rfl); k_whole) | (apply slice_from; (case F => k_asm); (case N => k_asm); (case hl => k_extra "m list"); (case hz => first | assumption | omega); (case hk => assumption); (case hj => assumption); (case hs => with_unfolding_all rfl); k_whole)
  k_with "subscriptTail Attribute Slice ref ref" => (k_here; k_dflt (k_extra "m slice"); intro _ _ _ _ l'; (k_lt l'); revert l'; intro _; (try k_sweep))
  k_with "subscriptTail Name Slice ref ref" => (k_here; k_dflt (k_extra "m slice"); intro _ _ _ _ l'; (k_lt l'); revert l'; intro _; (try k_sweep))
  k_with "exec While Compare" => (k_here; k_dflt (refine' while_src (by with_reducible assumption) (by passes_own) ?_))
  k_with "call ref" => (k_here; (with_reducible show wpAny _ _ (call (Value.ref 309) _) _ _ _); k_dflt (refine' far_spec (by assumption) (by k_extra "m stays") (by k_extra "m calm") ?_; intro _ _ _ _; k_extra "m kept"))
  k_with "call ref" => (k_here; (with_reducible show wpAny _ _ (call (Value.ref 328) _) _ _ _); k_dflt (refine' many_spec (by assumption) (by k_extra "m stays") (by k_extra "m calm") (by k_extra "m list") (by k_extra "m prs") (by assumption) ?_; intro _ _ _ _; k_extra "m kept"))
  k_with "call ref" => (k_here; (with_reducible show wpAny _ _ (call (Value.ref 335) _) _ _ _); k_dflt (refine' half_spec (by assumption) (by k_extra "m stays") (by k_extra "m calm") (by k_extra "m list") (by k_extra "m prs") (by assumption) ?_; intro _ _ _; k_extra "m kept"))
  k_with "call ref" => (k_here; (with_reducible show wpAny _ _ (call (Value.ref 316) _) _ _ _); (rename Fr _ _ _ _ => kF'); (rename News _ _ _ _ => kN'); k_dflt (apply draw_spec; (case C => assumption); (case hB => k_extra "m stays"); (case hA => k_extra "m calm"); (case hm => exact hm_one kN' (by k_mem) (by with_reducible assumption)); (case hbo => assumption); (case hnm => assumption); (case hcl => k_extra "m list"); (case hcb => assumption); (case hci => assumption); (case hcz => assumption); (case hmany => first | assumption | omega | (simp only [Int.reduceToNat]; omega) | decide); (case hnb => omega); intro hc tkc oc rc tc kc ec bc r0c r1c; (try simp only [Int.reduceToNat] at r1c); (rename Obj.cls _ = Value.type "dict" => hold'); (have FN' := fr_upd kF' kN' (by k_updF) kc ec); (obtain ⟨F', N'⟩ := FN'); clear kF' kN' hold'; (have dcls' := BagIs.cls bc); (try dsimp only at N'); revert hc tkc oc rc tc kc ec bc r0c r1c F' N' dcls'; intro _ _ _ _ _ _ _ _ _ _ _ _ _; (try dsimp only); (try k_fold)))
  k_with "m ints" => (repeat' (first | exact List.forall_mem_nil _ | (refine (in_cons (⟨_, _, rfl, by (try dsimp only); (try simp only [Int.reduceToNat]); omega⟩) (?_)))))
  k_with "subscriptTail" => (k_here; (with_reducible show wpAny _ _ (subscriptTail _ _ (Value.ref _) (Value.int _ _)) _ _ _); first | (apply tup_pick (fun n => 0 ≤ n ∧ n ≤ 10 ^ 15); (case ht => exact News.isTup (by with_reducible assumption) (by k_mem)); (case h0 => assumption); (case h1 => (simp only [List.length_cons, List.length_nil]; omega)); (case hz => (simp only [List.length_cons, List.length_nil]; omega)); (case hall => k_extra "m ints"); k_whole; intro _ _ px; (have px1 := px.1); (have px2 := px.2); clear px; revert px1 px2; intro _ _) | (apply tup_pick (fun n => -(10 ^ 30) ≤ n ∧ n ≤ 10 ^ 30); (case ht => exact News.isTup (by with_reducible assumption) (by k_mem)); (case h0 => assumption); (case h1 => (simp only [List.length_cons, List.length_nil]; omega)); (case hz => (simp only [List.length_cons, List.length_nil]; omega)); (case hall => k_extra "m ints"); k_whole; intro _ _ px; (have px1 := px.1); (have px2 := px.2); clear px; revert px1 px2; intro _ _))
  k_with "newTuple" => (k_here; k_dflt (refine' newTuple_L (by k_asm) (by k_asm) ?_ (by size_fits); k_whole); intro _ _ _ _ l1; (k_lt l1); revert l1; intro _; (try k_sweep))
  k_with "m om" => ((try simp only [Int.reduceToNat]); omega)
  k_with "m for enum" => (k_here; k_dflt (refine' for_enumF (by with_reducible assumption) (by with_unfolding_all rfl) ?_ (by rfl) (by with_unfolding_all rfl) (by with_unfolding_all rfl) (by rfl) (by (intro _; rfl)); k_whole))
  k_with "call type:enumerate" => (k_here; k_dflt (refine' enum_call (by k_asm) (by k_asm) (by k_extra "m list") ?_; k_whole; intro _ _ _ _ _ _ _ _ _ _ _))
  k_with "m lots" => first | assumption | exact LotsAt.mono (Fr.keep (by with_reducible assumption)) (by assumption)
  k_with "call ref" => (k_here; (with_reducible show wpAny _ _ (call (Value.ref 347) _) _ _ _); k_dflt (refine' wanted_spec (by assumption) (by k_extra "m stays") (by k_extra "m calm") (by k_extra "m list") (by k_extra "m lots") (by k_extra "m list") (by assumption) (by assumption) (by assumption) (by k_extra "m list") (by assumption) (by assumption) (by assumption) ?_; intro _ _ _ _ _; k_extra "m kept"))
  k_with "call ref" => (k_here; (with_reducible show wpAny _ _ (call (Value.ref 354) _) _ _ _); k_dflt (refine' place_spec (by assumption) (by k_extra "m stays") (by k_extra "m calm") (by k_extra "m desk") (by k_extra "m br") (by assumption) (by k_extra "m vars") (by assumption) (by assumption) (by assumption) (by assumption) (by k_extra "m list") (by k_extra "m lots") (by assumption) (by assumption) ?_; intro _ _ _; k_extra "m kept"))
  trivial
section
theorem off87 : True := by
  w_top off
  trivial
/-! ## what the law keeps as an abstract tail of its ledger -/
noncomputable def LInPn (g : Heap) (pn : List (Addr × Obj)) (a : Addr) (vs : List Value) (rs : Rng) : Prop := ∀ h, Stays g h → (∀ p ∈ pn, h.get? p.1 = some p.2) → h.IsList a vs.toArray ∧ Prs h vs rs
theorem LInPn.list {g h : Heap} {L a : Addr} {m : PySem.Str → Option Value} {pn news : List (Addr × Obj)} {vs : List Value} {rs : Rng} (ip : LInPn g pn a vs rs) (F : Fr g L h m) (N : News g L h news) (hs : ∀ p ∈ pn, p ∈ news) : h.IsList a vs.toArray := (ip h F.keep fun p hp => (N p (hs p hp)).1).1
theorem LInPn.prs {g h : Heap} {L a : Addr} {m : PySem.Str → Option Value} {pn news : List (Addr × Obj)} {vs : List Value} {rs : Rng} (ip : LInPn g pn a vs rs) (F : Fr g L h m) (N : News g L h news) (hs : ∀ p ∈ pn, p ∈ news) : Prs h vs rs := (ip h F.keep fun p hp => (N p (hs p hp)).1).2
theorem LInPn.more {g : Heap} {pn pn' : List (Addr × Obj)} {a : Addr} {vs : List Value} {rs : Rng} (x : LInPn g pn a vs rs) (h : ∀ p ∈ pn, p ∈ pn') : LInPn g pn' a vs rs := fun hh k1 k2 => x hh k1 fun p hp => k2 p (h p hp)
theorem InPn.more {g : Heap} {pn pn' : List (Addr × Obj)} {a : Addr} {vs : List Value} {rs : Rng} (x : InPn g pn a vs rs) (h : ∀ p ∈ pn, p ∈ pn') : InPn g pn' a vs rs := fun hh k1 k2 => x hh k1 fun p hp => k2 p (h p hp)
/-- a list that stands in the tail -/
noncomputable def LstPn (g : Heap) (pn : List (Addr × Obj)) (a : Addr) (vs : List Value) : Prop := ∀ h, Stays g h → (∀ p ∈ pn, h.get? p.1 = some p.2) → h.IsList a vs.toArray
theorem LstPn.list {g h : Heap} {L a : Addr} {m : PySem.Str → Option Value} {pn news : List (Addr × Obj)} {vs : List Value} (ip : LstPn g pn a vs) (F : Fr g L h m) (N : News g L h news) (hs : ∀ p ∈ pn, p ∈ news) : h.IsList a vs.toArray := ip h F.keep fun p hp => (N p (hs p hp)).1
theorem LstPn.more {g : Heap} {pn pn' : List (Addr × Obj)} {a : Addr} {vs : List Value} (x : LstPn g pn a vs) (h : ∀ p ∈ pn, p ∈ pn') : LstPn g pn' a vs := fun hh k1 k2 => x hh k1 fun p hp => k2 p (h p hp)
noncomputable def VPn (g : Heap) (pn : List (Addr × Obj)) (vs : List Value) (doms : List Rng) : Prop := vs.length = doms.length ∧ ∀ (x : Nat) rs, doms[x]? = some rs → ∃ d items, vs[x]? = some (.ref d) ∧ InPn g pn d items rs ∧ rs ≠ [] ∧ rs.length ≤ 1000
noncomputable def LPn (g : Heap) (pn : List (Addr × Obj)) (vs : List Value) (doms : List Rng) : Prop := vs.length = doms.length ∧ ∀ (x : Nat) rs, doms[x]? = some rs → ∃ d items, vs[x]? = some (.ref d) ∧ LInPn g pn d items rs ∧ rs ≠ [] ∧ rs.length ≤ 1000
theorem VPn.more {g : Heap} {pn pn' : List (Addr × Obj)} {vs : List Value} {doms : List Rng} (x : VPn g pn vs doms) (h : ∀ p ∈ pn, p ∈ pn') : VPn g pn' vs doms := ⟨x.1, fun y rs e => let ⟨d, i, a, b, c⟩ := x.2 y rs e; ⟨d, i, a, b.more h, c⟩⟩
theorem LPn.more {g : Heap} {pn pn' : List (Addr × Obj)} {vs : List Value} {doms : List Rng} (x : LPn g pn vs doms) (h : ∀ p ∈ pn, p ∈ pn') : LPn g pn' vs doms := ⟨x.1, fun y rs e => let ⟨d, i, a, b, c⟩ := x.2 y rs e; ⟨d, i, a, b.more h, c⟩⟩
theorem VPn.at {g h : Heap} {L : Addr} {m : PySem.Str → Option Value} {pn news : List (Addr × Obj)} {vs : List Value} {doms : List Rng} (x : VPn g pn vs doms) (F : Fr g L h m) (N : News g L h news) (hs : ∀ p ∈ pn, p ∈ news) : VarsAt h vs doms :=
  ⟨x.1, fun y rs e => let ⟨d, i, a, b, c⟩ := x.2 y rs e; ⟨d, i, a, b.tup F N hs, b.prs F N hs, c⟩⟩
theorem LPn.at {g h : Heap} {L : Addr} {m : PySem.Str → Option Value} {pn news : List (Addr × Obj)} {vs : List Value} {doms : List Rng} (x : LPn g pn vs doms) (F : Fr g L h m) (N : News g L h news) (hs : ∀ p ∈ pn, p ∈ news) : LotsAt h vs doms :=
  ⟨x.1, fun y rs e => let ⟨d, i, a, b, c⟩ := x.2 y rs e; ⟨d, i, a, b.list F N hs, b.prs F N hs, c⟩⟩
theorem getElem?_snoc {α : Type} {l : List α} {a y : α} {x : Nat} (h : (l ++ [a])[x]? = some y) : l[x]? = some y ∨ (x = l.length ∧ y = a) := by
  by_cases hx : x < l.length
  · rw [List.getElem?_append_left hx] at h; exact .inl h
  · rw [List.getElem?_append_right (by omega)] at h
    cases q : x - l.length with
    | zero => rw [q] at h; cases h; exact .inr ⟨by omega, rfl⟩
    | succ n => rw [q] at h; simp at h
theorem VPn.snoc {g : Heap} {pn : List (Addr × Obj)} {vs items : List Value} {doms : List Rng} {d : Addr} {rs : Rng} (x : VPn g pn vs doms) (i : InPn g pn d items rs) (hne : rs ≠ []) (hz : rs.length ≤ 1000) : VPn g pn (vs ++ [.ref d]) (doms ++ [rs]) := by
  refine ⟨by simp [x.1], fun y r e => ?_⟩
  rcases getElem?_snoc e with e | ⟨rfl, rfl⟩
  · obtain ⟨d', i', a, b⟩ := x.2 y r e
    exact ⟨d', i', by rw [List.getElem?_append_left (by obtain ⟨q, _⟩ := List.getElem?_eq_some_iff.mp a; exact q)]; exact a, b⟩
  · exact ⟨d, items, by rw [← x.1]; simp, i, hne, hz⟩
theorem LPn.snoc {g : Heap} {pn : List (Addr × Obj)} {vs items : List Value} {doms : List Rng} {d : Addr} {rs : Rng} (x : LPn g pn vs doms) (i : LInPn g pn d items rs) (hne : rs ≠ []) (hz : rs.length ≤ 1000) : LPn g pn (vs ++ [.ref d]) (doms ++ [rs]) := by
  refine ⟨by simp [x.1], fun y r e => ?_⟩
  rcases getElem?_snoc e with e | ⟨rfl, rfl⟩
  · obtain ⟨d', i', a, b⟩ := x.2 y r e
    exact ⟨d', i', by rw [List.getElem?_append_left (by obtain ⟨q, _⟩ := List.getElem?_eq_some_iff.mp a; exact q)]; exact a, b⟩
  · exact ⟨d, items, by rw [← x.1]; simp, i, hne, hz⟩
theorem VPn.set {g : Heap} {pn : List (Addr × Obj)} {vs items : List Value} {doms : List Rng} {d : Addr} {rs : Rng} {k : Nat} (x : VPn g pn vs doms) (hk : k < doms.length) (i : InPn g pn d items rs) (hne : rs ≠ []) (hz : rs.length ≤ 1000) : VPn g pn (vs.set k (.ref d)) (doms.set k rs) := by
  refine ⟨by simp [x.1], fun y r e => ?_⟩
  by_cases h : k = y
  · subst h
    rw [List.getElem?_set_self (by omega)] at e
    cases e
    exact ⟨d, items, by rw [List.getElem?_set_self (by rw [x.1]; omega)], i, hne, hz⟩
  · rw [List.getElem?_set_ne h] at e
    obtain ⟨d', i', a, b⟩ := x.2 y r e
    exact ⟨d', i', by rw [List.getElem?_set_ne h]; exact a, b⟩
theorem LPn.set {g : Heap} {pn : List (Addr × Obj)} {vs items : List Value} {doms : List Rng} {d : Addr} {rs : Rng} {k : Nat} (x : LPn g pn vs doms) (hk : k < doms.length) (i : LInPn g pn d items rs) (hne : rs ≠ []) (hz : rs.length ≤ 1000) : LPn g pn (vs.set k (.ref d)) (doms.set k rs) := by
  refine ⟨by simp [x.1], fun y r e => ?_⟩
  by_cases h : k = y
  · subst h
    rw [List.getElem?_set_self (by omega)] at e
    cases e
    exact ⟨d, items, by rw [List.getElem?_set_self (by rw [x.1]; omega)], i, hne, hz⟩
  · rw [List.getElem?_set_ne h] at e
    obtain ⟨d', i', a, b⟩ := x.2 y r e
    exact ⟨d', i', by rw [List.getElem?_set_ne h]; exact a, b⟩
noncomputable def EntryPn (g : Heap) (pn : List (Addr × Obj)) (v : Value) (x : Nat) (d : Value) : Prop := ∃ p t v3 v4 v5, v = .ref p ∧ ∀ h, Stays g h → (∀ q ∈ pn, h.get? q.1 = some q.2) → IsTup h p #[.int (x : Int) t, d, v3, v4, v5]
theorem EntryPn.more {g : Heap} {pn pn' : List (Addr × Obj)} {v d : Value} {x : Nat} (e : EntryPn g pn v x d) (h : ∀ p ∈ pn, p ∈ pn') : EntryPn g pn' v x d := let ⟨p, t, a, b, c, q, r⟩ := e; ⟨p, t, a, b, c, q, fun hh k1 k2 => r hh k1 fun p hp => k2 p (h p hp)⟩
noncomputable def TrPn (g : Heap) (pn : List (Addr × Obj)) (tr : List Value) (es : List (Nat × Value)) : Prop := tr.length = es.length ∧ ∀ (i : Nat) e, tr[i]? = some e → ∃ x, es[i]? = some x ∧ EntryPn g pn e x.1 x.2
theorem TrPn.more {g : Heap} {pn pn' : List (Addr × Obj)} {tr : List Value} {es : List (Nat × Value)} (x : TrPn g pn tr es) (h : ∀ p ∈ pn, p ∈ pn') : TrPn g pn' tr es := ⟨x.1, fun i e q => let ⟨y, a, b⟩ := x.2 i e q; ⟨y, a, b.more h⟩⟩
theorem TrPn.at {g h : Heap} {L : Addr} {m : PySem.Str → Option Value} {pn news : List (Addr × Obj)} {tr : List Value} {es : List (Nat × Value)} (x : TrPn g pn tr es) (F : Fr g L h m) (N : News g L h news) (hs : ∀ p ∈ pn, p ∈ news) : TrailIs h tr es :=
  ⟨x.1, fun i e q => let ⟨y, a, p, t, v3, v4, v5, ev, r⟩ := x.2 i e q; ⟨y, a, p, t, v3, v4, v5, ev, r h F.keep fun p hp => (N p (hs p hp)).1⟩⟩
theorem TrPn.snoc {g : Heap} {pn : List (Addr × Obj)} {tr : List Value} {es : List (Nat × Value)} {e d : Value} {x : Nat} (y : TrPn g pn tr es) (z : EntryPn g pn e x d) : TrPn g pn (tr ++ [e]) (es ++ [(x, d)]) := by
  refine ⟨by simp [y.1], fun i v q => ?_⟩
  rcases getElem?_snoc q with q | ⟨rfl, rfl⟩
  · obtain ⟨w, a, b⟩ := y.2 i v q
    exact ⟨w, by rw [List.getElem?_append_left (by obtain ⟨q, _⟩ := List.getElem?_eq_some_iff.mp a; exact q)]; exact a, b⟩
  · exact ⟨(x, d), by rw [y.1]; simp, z⟩
theorem TrPn.take {g : Heap} {pn : List (Addr × Obj)} {tr : List Value} {es : List (Nat × Value)} {k : Nat} (y : TrPn g pn tr es) : TrPn g pn (tr.take k) (es.take k) := by
  refine ⟨by simp [y.1], fun i v q => ?_⟩
  rw [List.getElem?_take] at q
  split at q
  · rename_i hi
    obtain ⟨w, a, b⟩ := y.2 i v q
    exact ⟨w, by rw [List.getElem?_take, if_pos hi]; exact a, b⟩
  · cases q
/-- the first domains, for the store's own check of emptiness -/
noncomputable def FullPn (g : Heap) (pn : List (Addr × Obj)) (fs : List Value) : Prop := ∀ y ∈ fs, ∃ d items rs, y = .ref d ∧ InPn g pn d items rs ∧ rs ≠ []
theorem FullPn.more {g : Heap} {pn pn' : List (Addr × Obj)} {fs : List Value} (x : FullPn g pn fs) (h : ∀ p ∈ pn, p ∈ pn') : FullPn g pn' fs := fun y hy => let ⟨d, i, rs, e, b, c⟩ := x y hy; ⟨d, i, rs, e, b.more h, c⟩
theorem FullPn.at {g h : Heap} {L : Addr} {m : PySem.Str → Option Value} {pn news : List (Addr × Obj)} {fs : List Value} (x : FullPn g pn fs) (F : Fr g L h m) (N : News g L h news) (hs : ∀ p ∈ pn, p ∈ news) : FullTups h fs := fun y hy => by
  obtain ⟨d, i, rs, e, b, c⟩ := x y hy
  refine ⟨d, i, e, b.tup F N hs, fun q => ?_⟩
  have := (b.prs F N hs).length
  rw [q] at this
  exact c (List.length_eq_zero_iff.mp this.symm)
theorem VPn.full {g : Heap} {pn : List (Addr × Obj)} {vs : List Value} {doms : List Rng} (x : VPn g pn vs doms) : FullPn g pn vs := fun y hy => by
  obtain ⟨i, hi⟩ := List.mem_iff_getElem?.mp hy
  have hl : i < doms.length := by
    have : i < vs.length := by obtain ⟨q, _⟩ := List.getElem?_eq_some_iff.mp hi; exact q
    have := x.1; omega
  obtain ⟨d, items, a, b, c, _⟩ := x.2 i _ (List.getElem?_eq_getElem hl)
  rw [a] at hi; cases hi
  exact ⟨d, items, _, rfl, b, c⟩
theorem absorbL {g h : Heap} {L l : Addr} {m : PySem.Str → Option Value} {news : List (Addr × Obj)} {vs : List Value} {ver : Nat} {rs : Rng} (F : Fr g L h m) (N : News g L h news) (hl : h.get? l = some (lstObj vs ver)) (hlL : l ≠ L) (hlg : g.get? l = none) (hp : Prs h vs rs) (S : List Addr) (hS : NotTup h S) (hlS : ∀ b ∈ S, l ≠ b) :
    ∃ pn, News g L h (news ++ pn) ∧ OwnOff pn S ∧ LInPn g pn l vs rs := by
  obtain ⟨pn, h1, h2⟩ := dom_objs hp
  refine ⟨(l, lstObj vs ver) :: pn.filter fun p => (g.get? p.1).isNone, fun q hq => ?_, fun q hq b hb e => ?_, fun h' k1 k2 => ?_⟩
  · rcases List.mem_append.mp hq with hq | hq
    · exact N q hq
    · rcases List.mem_cons.mp hq with rfl | hq
      · exact ⟨hl, hlL, hlg⟩
      · obtain ⟨hq, hn⟩ := List.mem_filter.mp hq
        refine ⟨(h1 q hq).1, fun e => ?_, by simpa using hn⟩
        obtain ⟨oL, es, ep, e1, e2, _⟩ := F.ns
        have := (h1 q hq)
        rw [e, e1] at this
        obtain ⟨t1, _, xs, n', t2⟩ := this
        cases t1
        rw [e2] at t2; cases t2
  · rcases List.mem_cons.mp hq with rfl | hq
    · exact hlS b hb e
    · obtain ⟨hq, _⟩ := List.mem_filter.mp hq
      obtain ⟨ob, e1, e2⟩ := hS b hb
      have := h1 q hq
      rw [e, e1] at this
      exact e2 (by rw [Option.some.inj this.1]; exact this.2.1)
  · refine ⟨⟨_, k2 _ (.head _), rfl, ver, rfl⟩, h2 h' fun q hq => ?_⟩
    cases e : g.get? q.1 with
    | none => exact k2 q (.tail _ (List.mem_filter.mpr ⟨hq, by simp [e]⟩))
    | some oq =>
      have := F.keep _ _ e
      rw [(h1 q hq).1] at this; cases this
      exact k1 _ _ e
theorem absorbE {g h : Heap} {L : Addr} {m : PySem.Str → Option Value} {news : List (Addr × Obj)} {v d : Value} {x : Nat} (F : Fr g L h m) (N : News g L h news) (e : EntryIs h v x d) (S : List Addr) (hS : NotTup h S) :
    ∃ pn, News g L h (news ++ pn) ∧ OwnOff pn S ∧ EntryPn g pn v x d := by
  obtain ⟨p, t, v3, v4, v5, rfl, o, ho, hc, n, hd⟩ := e
  cases e : g.get? p with
  | some o' =>
    have e' := F.keep _ _ e
    rw [ho] at e'; cases e'
    exact ⟨[], by rw [List.append_nil]; exact N, (fun _ q => nomatch q), p, t, v3, v4, v5, rfl, fun h' k1 _ => ⟨o, k1 _ _ e, hc, n, hd⟩⟩
  | none =>
    refine ⟨[(p, o)], fun q hq => ?_, fun q hq b hb e => ?_, p, t, v3, v4, v5, rfl, fun h' _ k2 => ⟨o, k2 _ (.head _), hc, n, hd⟩⟩
    · rcases List.mem_append.mp hq with hq | hq
      · exact N q hq
      · cases List.mem_singleton.mp hq
        refine ⟨ho, fun q => ?_, e⟩
        obtain ⟨oL, es, ep, e1, e2, _⟩ := F.ns
        simp only at q
        subst q
        rw [e1] at ho; cases ho
        rw [e2] at hd; cases hd
    · cases List.mem_singleton.mp hq
      obtain ⟨ob, e1, e2⟩ := hS b hb
      simp only at e
      subst e
      rw [e1] at ho; cases ho
      exact e2 hc
theorem fr_set {g h h' : Heap} {L : Addr} {m : PySem.Str → Option Value} {mu mu' news : List (Addr × Obj)} (F : Fr g L h m) (N : News g L h (mu ++ news)) (k : StaysBut (mu.map (·.1)) h h') (hm : mu'.map (·.1) = mu.map (·.1)) (e : ∀ p ∈ mu', h'.get? p.1 = some p.2)
    (n : ∀ p ∈ news, p.1 ∉ mu.map (·.1)) : Fr g L h' m ∧ News g L h' (mu' ++ news) := by
  have hmu : ∀ b ∈ mu.map (·.1), b ≠ L ∧ g.get? b = none := fun b hb => by
    obtain ⟨p, hp, rfl⟩ := List.mem_map.mp hb
    exact (N p (List.mem_append_left _ hp)).2
  refine ⟨⟨F.ns.at' fun o e => k L o (fun q => (hmu _ q).1 rfl) e, fun b o e => k b o (fun q => ?_) (F.keep b o e), F.above⟩, fun p hp => ?_⟩
  · rw [(hmu _ q).2] at e; cases e
  · rcases List.mem_append.mp hp with hp | hp
    · exact ⟨e p hp, hmu _ (hm ▸ List.mem_map_of_mem hp)⟩
    · have y := N p (List.mem_append_right _ hp)
      exact ⟨k _ _ (n p hp) y.1, y.2⟩
theorem OwnOff.app {l r : List (Addr × Obj)} {S : List Addr} (a : OwnOff l S) (b : OwnOff r S) : OwnOff (l ++ r) S := fun p hp => by
  rcases List.mem_append.mp hp with hp | hp
  · exact a p hp
  · exact b p hp
theorem own_in {l : List (Addr × Obj)} {S : List Addr} (h : ∀ c ∈ S, ∀ p ∈ l, p.1 ≠ c) : OwnOff l S := fun p hp c hc => h c hc p hp
theorem own_snoc {l : List (Addr × Obj)} {S : List Addr} {x : Addr} (h : OwnOff l S) (hx : ∀ p ∈ l, p.1 ≠ x) : OwnOff l (S ++ [x]) := fun p hp c hc => by
  rcases List.mem_append.mp hc with hc | hc
  · exact h p hp c hc
  · rw [List.mem_singleton.mp hc]; exact hx p hp
theorem OwnOff.cons {q : Addr × Obj} {r : List (Addr × Obj)} {S : List Addr} (a : ∀ b ∈ S, q.1 ≠ b) (b : OwnOff r S) : OwnOff (q :: r) S := fun p hp => by
  rcases List.mem_cons.mp hp with rfl | hp
  · exact a
  · exact b p hp
section
variable {w : World} {mean : ExcName → Option Value} {mg mb : PySem.Str → Option Value} {B : Heap} {A : Around} {s : Shared} {Q E : Value → Shared → Prop}
set_option pp.deepTerms false
set_option pp.deepTerms.threshold 3
theorem between_new {l : Addr} {vs : List Value} {rs : Rng} {lo hi : Int} {t1 t2 : Tok} (C : Core w mean mg mb B) (hB : Stays B s.heap) (hA : Calm A 4) (hl : s.heap.IsList l vs.toArray) (hp : Prs s.heap vs rs) (hz : rs.length ≤ 1000)
  (hret : ∀ h' tk' r items ver, Stays s.heap h' → s.heap.get? r = none → h'.get? r = some (lstObj items ver) → Prs h' items (betweenOf rs lo hi) → Q (.ref r) {s with heap := h', toks := tk'}) :
  wpAny (model PR w) A (call (.ref 340) [.ref l, .int lo t1, .int hi t2]) Q E s := by
  k_extra "m enterC0"
  k_extra "m cell2"
  k_steps
  rename News _ _ _ _ => N1
  have hc1 := News.get N1 (.head _)
  have hc2 := News.get N1 (.tail _ (.head _))
  rename _ = Data.cell _ => md2
  have hm1 : _ = Data.cell (some (.int lo t1)) := md2
  clear md2
  rename @Eq Data _ (Data.cell (bindC _ _ _ _)) => md1
  have hm2 : _ = Data.cell (some (.int hi t2)) := md1
  refine comp_pairs (fun r o h => OptPair h (if r.1 ≤ hi ∧ lo ≤ r.2 then some (max r.1 lo, min r.2 hi) else none) o) (fun r o h h' kk x => x.tup kk) (Calm.hh (by assumption)) ?_
  k_steps
  refine ⟨l, vs, rs, rfl, .inr (by k_extra "m list"), hp.mono (Fr.keep (by assumption)), le_sizeLine hz, ?_, ?_⟩
  · intro r Cc h tk m t1 t2 E' hr hk hn hm1 hm2
    have F' : CF _ _ _ _ _ := ⟨hn, hk, fun _ _ e => e⟩
    rename Fr _ _ _ _ => Fo
    have k0 : Stays s.heap _ := Fo.keep
    refine wpAny_tests_one ?_
    k_steps
    · exact ⟨_, _, rfl, CF.since (by assumption), opt_some ⟨by assumption, by assumption⟩ (pair_made (by assumption))⟩
    · exact ⟨_, _, rfl, CF.since (by assumption), opt_none (fun q => absurd q.2 (by assumption))⟩
    · exact ⟨_, _, rfl, CF.since (by assumption), opt_none (fun q => absurd q.1 (by assumption))⟩
  · intro D h' tk os hD hpl hlen hG hk
    obtain ⟨nD, hD'⟩ := hpl
    have F' := Fr.keeps (by with_reducible assumption) hk
    have N' := news_fresh (by with_reducible assumption) (by with_reducible assumption) hk hD hD'
    have hz2 := opts_len hlen (le_sizeLine hz)
    k_steps
    dsimp only
    k_steps
    exact hret _ _ _ _ _ (Fr.keep (by assumption)) (News.fresh (by assumption) (.head _)) (News.get (by assumption) (.head _)) (prs_of_opts hlen hG)
end

end
theorem rows87 : True := by
  k_with "m perm" => (repeat' first | exact List.forall_mem_nil _ | (refine in_cons ?_ ?_; k_extra "m mem") | (intro _ _; k_ownIn))
  trivial
section
theorem off88 : True := by
  w_top off
  trivial
/-! ## making a store, and a brancher -/
theorem Calm.under {A : Around} {k : Nat} {C : Addr} {vals : List Value} (h : Calm A (k + 1)) : Calm (A.under (.builtin "type.__call__" ⟨.ref C :: vals, []⟩)) k := by
  refine ⟨h.hh, ?_, ?_⟩
  · have := h.hd
    rw [depth_under_make]
    omega
  · have := h.hu
    have e : (A.under (.builtin "type.__call__" ⟨.ref C :: vals, []⟩)).units = A.units + 1 := by first | rfl | simp [Around.under, Code.cUnits, Code.frames, Code.isFrame]
    omega
theorem own88_1 : True := by
  k_with "m enter2" => (k_extra "m around"; k_extra "m fill"; k_dflt (refine' enter _ (by assumption) (by assumption) (by assumption) (by assumption) (by k_is) (by k_is) (by exact BindsTo.of_eq rfl) (by exact locs rfl) ?_ (by exact rfl) (by exact rfl) (by exact rfl) (by decide); k_whole; intro _ _ _ _ _ _ _ _ _ _ _ _ _ _; (try dsimp only); (try k_fold)))
  trivial
theorem storeEs_of (h0 h1 h2 h3 h4 h5 h6 h7 : Int) (t0 t1 t2 t3 t4 t5 t6 t7 : Tok) (vd vf vt vm vn vs vi vc : Value) :
    ([⟨h0, .str (Str.ofString "domains") t0, vd⟩, ⟨h1, .str (Str.ofString "firsts") t1, vf⟩, ⟨h2, .str (Str.ofString "trail") t2, vt⟩, ⟨h3, .str (Str.ofString "marks") t3, vm⟩,
      ⟨h4, .str (Str.ofString "news") t4, vn⟩, ⟨h5, .str (Str.ofString "speaker") t5, vs⟩, ⟨h6, .str (Str.ofString "is_failed") t6, vi⟩, ⟨h7, .str (Str.ofString "clash") t7, vc⟩] : List DictEntry) =
      storeEs (fun i => [h0, h1, h2, h3, h4, h5, h6, h7].getD i h0) (fun i => [t0, t1, t2, t3, t4, t5, t6, t7].getD i t0) vd vf vt vm vn vs vi vc := rfl
theorem brEs_of (h0 h1 h2 h3 : Int) (t0 t1 t2 t3 : Tok) (v1 v2 v3 v4 : Value) :
    ([⟨h0, .str (Str.ofString "some") t0, v1⟩, ⟨h1, .str (Str.ofString "order") t1, v2⟩, ⟨h2, .str (Str.ofString "choice") t2, v3⟩, ⟨h3, .str (Str.ofString "degrees") t3, v4⟩] : List DictEntry) =
      brEs (fun i => [h0, h1, h2, h3].getD i h0) (fun i => [t0, t1, t2, t3].getD i t0) v1 v2 v3 v4 := rfl
theorem news_c {g h : Heap} {L a : Addr} {o : Obj} {news : List (Addr × Obj)} (y : h.get? a = some o ∧ a ≠ L ∧ g.get? a = none) (N : News g L h news) : News g L h ((a, o) :: news) := fun p hp => by
  rcases List.mem_cons.mp hp with rfl | hp
  · exact y
  · exact N p hp
theorem fresh_back {h1 g g0 : Heap} {x d L l : Nat} {oL : Obj} (k : ∀ (b : Addr) o, b ∉ [(x : Addr), d] → h1.get? b = some o → g0.get? b = some o) (hg : Stays g h1) (hL : h1.get? L = some oL) (hx : L ≠ x) (hd : L ≠ d) (e : g0.get? l = none) (n1 : l ≠ x) (n2 : l ≠ d) : l ≠ L ∧ g.get? l = none := by
  refine ⟨fun q => ?_, ?_⟩
  · subst q
    rw [k l oL (by simp; exact ⟨hx, hd⟩) hL] at e; cases e
  · cases q : g.get? l with
    | none => rfl
    | some o => rw [k l o (by simp; exact ⟨n1, n2⟩) (hg _ _ q)] at e; cases e
section
variable {w : World} {mean : ExcName → Option Value} {mg mb : PySem.Str → Option Value} {B : Heap} {A : Around} {s : Shared} {Q E : Value → Shared → Prop} {g : Heap} {L : Addr} {m : PySem.Str → Option Value} {news : List (Addr × Obj)}
set_option pp.deepTerms false
set_option pp.deepTerms.threshold 3
theorem store_call (C : Core w mean mg mb B) (hBg : Stays B g) (F : Fr g L s.heap m) (N : News g L s.heap news) (hA : Calm A 5)
  (hret : ∀ h' tk' a D dl fl tl ml nd od hs ts vsp vi vc, Fr g L h' m → News g L h' ((a, storeObj D) :: (D, dictOf (storeEs hs ts (.ref dl) (.ref fl) (.ref tl) (.ref ml) (.ref nd) vsp vi vc) 8) :: (dl, lstObj [] 0) :: (fl, lstObj [] 0) :: (tl, lstObj [] 0) :: (ml, lstObj [] 0) :: (nd, od) :: news) → IntDictIs od 0 → (∀ p ∈ news, p.1 < D) → @LT.lt Nat _ D a → @LT.lt Nat _ a dl → @LT.lt Nat _ dl fl → @LT.lt Nat _ fl tl → @LT.lt Nat _ tl ml → @LT.lt Nat _ ml nd → Q (.ref a) {s with heap := h', toks := tk'}) :
  wpAny (model PR w) A (call (.ref 298) []) Q E s := by
  have X' := C.X.keeps hBg
  have hBs : Stays B s.heap := stays_fr hBg F
  k_extra "m fill"
  k_dflt (refine' call_cls F X' N ?k4 ?k5 ?k6 ?_; (case k4 => k_is); (case k5 => k_is); (case k6 => k_is); k_whole)
  intro x d h1 F1 N1 l1 l2
  have hU : Calm (A.under (.builtin "type.__call__" ⟨[.ref 298], []⟩)) 4 := hA.under
  have hB1 : Stays B h1 := stays_fr hBg F1
  have hmu : ∀ p ∈ [(x, instObj 298 d), (d, dictOf [] 0)], h1.get? p.1 = some p.2 ∧ B.get? p.1 = none := fun p hp => by
    have y : p ∈ (x, instObj 298 d) :: (d, dictOf [] 0) :: news := by
      simp only [List.mem_cons, List.not_mem_nil, or_false] at hp
      rcases hp with rfl | rfl <;> simp
    refine ⟨(N1 p y).1, ?_⟩
    cases q : B.get? p.1 with
    | none => rfl
    | some o => have := hBg _ _ q; rw [(N1 p y).2.2] at this; cases this
  have hd0 : g.get? d = none := (N1 (d, dictOf [] 0) (.tail _ (.head _))).2.2
  have hx0 : g.get? x = none := (N1 (x, instObj 298 d) (.head _)).2.2
  have hdL : @Ne Nat d L := (N1 (d, dictOf [] 0) (.tail _ (.head _))).2.1
  have hxL : @Ne Nat x L := (N1 (x, instObj 298 d) (.head _)).2.1
  have hgd : Stays g h1 := F1.keep
  obtain ⟨oL, hoL⟩ : ∃ oL, h1.get? L = some oL := by obtain ⟨oL, _, _, hL, _⟩ := F1.ns; exact ⟨oL, hL⟩
  have hLd : ∀ h', StaysBut [x, d] h1 h' → Fr g L h' m ∧ News g L h' news := fun h' k => by
    refine ⟨⟨F1.ns.at' fun o e => k _ o ?_ e, fun b o e => k b o ?_ (F1.keep b o e), F1.above⟩, fun p hp => ⟨k _ _ ?_ (N1 p (.tail _ (.tail _ hp))).1, (N1 p (.tail _ (.tail _ hp))).2⟩⟩
    · simp only [List.mem_cons, List.not_mem_nil, or_false, not_or]; exact ⟨Ne.symm hxL, Ne.symm hdL⟩
    · simp only [List.mem_cons, List.not_mem_nil, or_false, not_or]
      exact ⟨fun q => by (rw [q, hx0] at e; cases e), fun q => by (rw [q, hd0] at e; cases e)⟩
    · simp only [List.mem_cons, List.not_mem_nil, or_false, not_or]
      have a1 : @LT.lt Nat _ p.1 d := l1 p hp
      have a2 : @LT.lt Nat _ d x := l2
      exact ⟨fun q => by (rw [q] at a1; omega), fun q => by (rw [q] at a1; omega)⟩
  clear hA N F hBs N1 F1
  generalize A.under _ = A2 at hU ⊢
  k_extra "m enter2"
  rename_i g0 L0 h0 tk0 hg0 hL0 F0 N0 X0 T0 hB0 kg0 hlt0 hA0
  k_steps
  rename Fr _ _ _ _ => F3
  rename News _ _ _ _ => N3
  rename Obj.IsDictOf (intKind PR w) _ [] => hdi
  refine ⟨rfl, ?_⟩
  rw [storeEs_of] at N3
  have hk : StaysBut [x, d] h1 _ := fun b o hn e => F3.keep b o (kg0 b o hn e)
  obtain ⟨F4, N4⟩ := hLd _ hk
  rename_i dl a1 l5 a2 tk3 fl a3 l4 a4 tk2 tl a5 l3 a6 tk1 ml a7 lb a8 tk0 nd a9 onw lo hs1 fs1 fi1 lc a10 a11 a12 cl a13 ld a14
  dsimp only
  have kgx : ∀ (b : Addr) o, b ∉ [x, d] → h1.get? b = some o → g0.get? b = some o := kg0
  have yx : (a14).get? x = some (storeObj d) ∧ @Ne Nat x L ∧ g.get? x = none := ⟨(N3 _ (.tail _ (.tail _ (.tail _ (.tail _ (.tail _ (.tail _ (.head _)))))))).1, hxL, hx0⟩
  have yD := (N3 _ (.tail _ (.tail _ (.tail _ (.tail _ (.tail _ (.tail _ (.tail _ (.head _))))))))).1
  have ydl : (a14).get? dl = some (lstObj [] 0) ∧ @Ne Nat dl L ∧ g.get? dl = none := ⟨(N3 _ (.tail _ (.tail _ (.tail _ (.tail _ (.tail _ (.head _))))))).1, fresh_back kgx hgd hoL (Ne.symm hxL) (Ne.symm hdL) (N3 (dl, lstObj [] 0) (.tail _ (.tail _ (.tail _ (.tail _ (.tail _ (.head _))))))).2.2 (Ne.symm (Nat.ne_of_lt (by k_extra "m lt"))) (Ne.symm (Nat.ne_of_lt (by k_extra "m lt")))⟩
  have yfl : (a14).get? fl = some (lstObj [] 0) ∧ @Ne Nat fl L ∧ g.get? fl = none := ⟨(N3 _ (.tail _ (.tail _ (.tail _ (.tail _ (.head _)))))).1, fresh_back kgx hgd hoL (Ne.symm hxL) (Ne.symm hdL) (N3 (fl, lstObj [] 0) (.tail _ (.tail _ (.tail _ (.tail _ (.head _)))))).2.2 (Ne.symm (Nat.ne_of_lt (by k_extra "m lt"))) (Ne.symm (Nat.ne_of_lt (by k_extra "m lt")))⟩
  have ytl : (a14).get? tl = some (lstObj [] 0) ∧ @Ne Nat tl L ∧ g.get? tl = none := ⟨(N3 _ (.tail _ (.tail _ (.tail _ (.head _))))).1, fresh_back kgx hgd hoL (Ne.symm hxL) (Ne.symm hdL) (N3 (tl, lstObj [] 0) (.tail _ (.tail _ (.tail _ (.head _))))).2.2 (Ne.symm (Nat.ne_of_lt (by k_extra "m lt"))) (Ne.symm (Nat.ne_of_lt (by k_extra "m lt")))⟩
  have yml : (a14).get? ml = some (lstObj [] 0) ∧ @Ne Nat ml L ∧ g.get? ml = none := ⟨(N3 _ (.tail _ (.tail _ (.head _)))).1, fresh_back kgx hgd hoL (Ne.symm hxL) (Ne.symm hdL) (N3 (ml, lstObj [] 0) (.tail _ (.tail _ (.head _)))).2.2 (Ne.symm (Nat.ne_of_lt (by k_extra "m lt"))) (Ne.symm (Nat.ne_of_lt (by k_extra "m lt")))⟩
  have ynd : (a14).get? nd = some onw ∧ @Ne Nat nd L ∧ g.get? nd = none := ⟨(N3 _ (.tail _ (.head _))).1, fresh_back kgx hgd hoL (Ne.symm hxL) (Ne.symm hdL) (N3 (nd, onw) (.tail _ (.head _))).2.2 (Ne.symm (Nat.ne_of_lt (by k_extra "m lt"))) (Ne.symm (Nat.ne_of_lt (by k_extra "m lt")))⟩
  exact hret _ _ x d dl fl tl ml nd onw _ _ _ _ _ F4 (news_c yx (news_c ⟨yD, hdL, hd0⟩ (news_c ydl (news_c yfl (news_c ytl (news_c yml (news_c ynd N4))))))) (intDictIs_nil hdi) l1 l2 (by omega) (by omega) (by omega) (by omega) (by omega)
end

end
theorem rows88 : True := by
  k_with_none
  k_with "m mem" => first | exact mem0 | exact mem1 | exact mem2 | exact mem3 | (refine' mem4 ?_; k_extra "m mem")
  k_with "k ne" => (refine neN ?_; (try dsimp only); k_extra "m ne0")
  k_with "m lt0" => first | with_reducible assumption | (refine lt_from (by with_reducible assumption) ?_; intro hh; first | exact hh.1 | exact hh.2 | exact hh.2.1 | exact hh.2.2 | exact hh.2.2.1 | exact hh.2.2.2 | exact hh.2.2.2.1 | exact hh.2.2.2.2 | exact hh.2.2.2.2.1 | exact hh.2.2.2.2.2 | exact hh.2.2.2.2.2.1 | exact hh.2.2.2.2.2.2 | exact hh.2.2.2.2.2.2.1 | exact hh.2.2.2.2.2.2.2 | exact hh.2.2.2.2.2.2.2.1 | exact hh.2.2.2.2.2.2.2.2 | exact hh.2.2.2.2.2.2.2.2.1 | exact hh.2.2.2.2.2.2.2.2.2 | exact hh.2.2.2.2.2.2.2.2.2.1 | exact hh.2.2.2.2.2.2.2.2.2.2 | exact hh.2.2.2.2.2.2.2.2.2.2.1 | exact hh.2.2.2.2.2.2.2.2.2.2.2 | exact hh.2.2.2.2.2.2.2.2.2.2.2.1 | exact hh.2.2.2.2.2.2.2.2.2.2.2.2 | exact hh.2.2.2.2.2.2.2.2.2.2.2.2.1 | exact hh.2.2.2.2.2.2.2.2.2.2.2.2.2 | exact hh.2.2.2.2.2.2.2.2.2.2.2.2.2.1 | exact hh.2.2.2.2.2.2.2.2.2.2.2.2.2.2 | exact hh.2.2.2.2.2.2.2.2.2.2.2.2.2.2.1 | exact hh.2.2.2.2.2.2.2.2.2.2.2.2.2.2.2 | exact hh.2.2.2.2.2.2.2.2.2.2.2.2.2.2.2.1 | exact hh.2.2.2.2.2.2.2.2.2.2.2.2.2.2.2.2 | exact hh.2.2.2.2.2.2.2.2.2.2.2.2.2.2.2.2.1 | exact hh.2.2.2.2.2.2.2.2.2.2.2.2.2.2.2.2.2 | exact hh.2.2.2.2.2.2.2.2.2.2.2.2.2.2.2.2.2.1 | exact hh.2.2.2.2.2.2.2.2.2.2.2.2.2.2.2.2.2.2 | exact hh.2.2.2.2.2.2.2.2.2.2.2.2.2.2.2.2.2.2.1 | exact hh.2.2.2.2.2.2.2.2.2.2.2.2.2.2.2.2.2.2.2 | exact hh.2.2.2.2.2.2.2.2.2.2.2.2.2.2.2.2.2.2.2.1 | exact hh.2.2.2.2.2.2.2.2.2.2.2.2.2.2.2.2.2.2.2.2 | exact hh.2.2.2.2.2.2.2.2.2.2.2.2.2.2.2.2.2.2.2.2.1 | exact hh.2.2.2.2.2.2.2.2.2.2.2.2.2.2.2.2.2.2.2.2.2 | exact hh.2.2.2.2.2.2.2.2.2.2.2.2.2.2.2.2.2.2.2.2.2.1 | exact hh.2.2.2.2.2.2.2.2.2.2.2.2.2.2.2.2.2.2.2.2.2.2)
  k_with "m lt" => first | k_extra "m lt0" | omega
  k_with "m ne0" => first | with_reducible assumption | exact Ne.symm (by with_reducible assumption) | exact Nat.ne_of_lt (by k_extra "m lt0") | exact Nat.ne_of_gt (by k_extra "m lt0")
  k_with "m fill" => (have hfill : Challenge.rw_pq0372_01 = Challenge.rw_pq0372_01 ∧ KF = KF := (by k_fill; exact ⟨rfl, rfl⟩); clear hfill)
  k_with "m around" => ((rename Around => mA'); (rcases mA' with ⟨_, _, _, _, _⟩); (have mE' := Calm.hh (by with_reducible assumption)); (dsimp only at mE'); subst mE')
  k_with "m enter0" => (k_extra "m around"; k_extra "m fill"; refine wpAny_call ?_; k_dflt (refine' enter0 (by assumption) (by assumption) (by assumption) (by k_is) (by k_is) (by exact BindsTo.of_eq rfl) (by exact locs rfl) ?_ (by exact rfl) (by exact rfl) (by exact rfl) (by decide); k_whole; intro _ _ _ _ _ _ _ _ _; (try dsimp only); (try k_fold)))
  k_with "m enterC0" => (k_extra "m around"; k_extra "m fill"; refine wpAny_call ?_; k_dflt (refine' enterC0 (by assumption) (by assumption) (by assumption) (by k_is) (by k_is) (by exact BindsTo.of_eq rfl) (by rfl) (by decide) ?_ (by exact rfl) (by exact rfl) (by exact rfl); k_whole; intro _ _ _ _ _ _ _ _ _ _ _; (try dsimp only); (try k_fold)))
  k_with "m cell1" => ((rename CellsAre _ _ _ => mY'); (with_unfolding_all have mY2' := CellsAre.one mY'); (obtain ⟨_, me', _⟩ := mY2'); (subst me'); clear mY')
  k_with "m cell2" => ((rename CellsAre _ _ _ => mY'); (with_unfolding_all have mY2' := CellsAre.two mY'); (obtain ⟨_, _, me', _, _⟩ := mY2'); (subst me'); clear mY')
  k_with "m tup" => first | assumption | exact fr_tup (by with_reducible assumption) (by with_reducible assumption) | exact News.isTup (by with_reducible assumption) (by news_mem)
  k_with "m list" => first | assumption | exact fr_list (by with_reducible assumption) (by with_reducible assumption) | exact News.isList (by with_reducible assumption) (by news_mem)
  k_with "call builtin:len" => (k_here; (with_reducible show wpAny _ _ (call (Value.builtin "len") [Value.ref _]) _ _ _); k_dflt first | (refine' len_tup (by k_extra "m tup") (by first | assumption | (with_reducible decide) | omega | (simp only [List.length_append, List.length_cons, List.length_nil]; first | decide | omega)) ?_; k_whole; intro _ _) | (refine' len_lst (by k_extra "m list") (by first | assumption | (with_reducible decide) | omega | (simp only [List.length_append, List.length_cons, List.length_nil]; first | decide | omega)) ?_; k_whole; intro _ _))
  k_with "subscriptTail" => (k_here; (with_reducible show wpAny _ _ (subscriptTail _ _ (Value.ref _) (Value.int (-1) _)) _ _ _); (with_unfolding_all refine' tup_last (by k_extra "m tup") (by first | assumption | rfl) ?_ (by with_unfolding_all rfl); k_whole))
  k_with "subscriptTail" => (k_here; (with_reducible show wpAny _ _ (subscriptTail _ _ (Value.ref _) (Value.int _ _)) _ _ _); (with_unfolding_all apply tup_at); (case ht => k_extra "m tup"); (first | ((case hk => with_unfolding_all rfl); (case hx => first | assumption | rfl)) | ((case hx => assumption); (case hk => omega))); (case hf => first | decide | omega); (case hs => with_unfolding_all rfl); k_whole)
  k_with "subscriptTail" => (k_here; (with_reducible show wpAny _ _ (subscriptTail _ _ (Value.ref _) (Value.int _ _)) _ _ _); (with_unfolding_all apply list_at); (case ht => k_extra "m list"); (first | ((case hk => with_unfolding_all rfl); (case hx => first | assumption | rfl)) | ((case hx => assumption); (case hk => omega))); (case hf => first | decide | omega); (case hs => with_unfolding_all rfl); k_whole)
  k_with "k inst" => exact instAt_base (by assumption) (by assumption) (by assumption)
  k_with "m stays" => first | with_reducible assumption | exact stays_fr (by with_reducible assumption) (by with_reducible assumption)
  k_with "m calm" => exact Calm.le (by assumption) (by decide)
  k_with "m kept" => ((rename Fr _ _ _ _ => kF'); (rename News _ _ _ _ => kN'); (refine kept_of (by with_reducible assumption) kF' kN' ?_); clear kF' kN'; intro _ _; (try dsimp only); (try k_fold))
  k_with "eval Name" => ((with_reducible show wpAny _ _ (eval (Expr.Name _ _) (compEnvC _ _ _ _)) _ _ _); k_dflt first | (apply comp_local; (case F => with_reducible assumption); (case hk => rfl); (case hl => with_unfolding_all rfl); (case hd => decide); (case hm => first | with_reducible assumption | with_unfolding_all rfl); k_whole) | (apply comp_cell; (case F => with_reducible assumption); (case hk => rfl); (case hl => with_unfolding_all rfl); (case hd => decide); (case hc => with_unfolding_all rfl); (case ho => assumption); (case hv => with_reducible assumption); k_whole) | (apply comp_builtin; (case F => with_reducible assumption); (case T => with_reducible assumption); (case k => with_reducible assumption); (case hg => rfl); (case hb => rfl); (case hk => rfl); (case hx => with_unfolding_all rfl); (case hd => decide); (case h2 => first | exact mb_max (by with_reducible assumption) | exact mb_min (by with_reducible assumption)); (case h1 => first | exact mg_max (by with_reducible assumption) | exact mg_min (by with_reducible assumption)); k_whole))
  k_with "call builtin:max" => ((with_reducible show wpAny _ _ (call (Value.builtin _) [Value.int _ _, Value.int _ _]) _ _ _); k_dflt (refine' comp_max (by with_reducible assumption) (by first | exact Calm.hh (by assumption) | with_unfolding_all rfl) ?_; k_whole; intro _ _ _ _ _))
  k_with "call builtin:min" => ((with_reducible show wpAny _ _ (call (Value.builtin _) [Value.int _ _, Value.int _ _]) _ _ _); k_dflt (refine' comp_min (by with_reducible assumption) (by first | exact Calm.hh (by assumption) | with_unfolding_all rfl) ?_; k_whole; intro _ _ _ _ _))
  k_with "newTuple" => (k_dflt (refine' comp_tuple (by with_reducible assumption) ?_ (by rfl); k_whole; intro _ _ _ _))
  k_with "call type:tuple" => ((with_reducible show wpAny _ _ (call (Value.type _) [Value.ref _]) _ _ _); k_dflt (refine' tuple_of (by with_reducible assumption) (by with_reducible assumption) (by k_extra "m list") (by first | assumption | omega) ?_; k_whole; intro _ _ _ _ _ _))
  k_with "call ref" => (k_here; (with_reducible show wpAny _ _ (call (Value.ref 77) _) _ _ _); k_dflt (refine' least_spec (by assumption) (by k_extra "m stays") (by k_extra "m calm") (by k_extra "m tup") (by assumption) (by k_extra "m tup") ?_; intro _ _ _ _; k_extra "m kept"))
  k_with "call ref" => (k_here; (with_reducible show wpAny _ _ (call (Value.ref 84) _) _ _ _); k_dflt (refine' greatest_spec (by assumption) (by k_extra "m stays") (by k_extra "m calm") (by k_extra "m tup") (by assumption) (by k_extra "m tup") ?_; intro _ _ _ _; k_extra "m kept"))
  k_with "call ref" => (k_here; (with_reducible show wpAny _ _ (call (Value.ref 183) _) _ _ _); k_dflt (refine' dom_spec (by assumption) (by k_extra "m stays") (by k_extra "m calm") (by k_extra "m desk") (by assumption) (by assumption) ?_; intro _ _ _; k_extra "m kept"))
  k_with "call ref" => (k_here; (with_reducible show wpAny _ _ (call (Value.ref 197) _) _ _ _); k_dflt (refine' low_spec (by assumption) (by k_extra "m stays") (by k_extra "m calm") (by k_extra "m desk") (by assumption) (by assumption) (by k_extra "m tup") (by assumption) (by k_extra "m tup") ?_; intro _ _ _ _; k_extra "m kept"))
  k_with "call ref" => (k_here; (with_reducible show wpAny _ _ (call (Value.ref 204) _) _ _ _); k_dflt (refine' high_spec (by assumption) (by k_extra "m stays") (by k_extra "m calm") (by k_extra "m desk") (by assumption) (by assumption) (by k_extra "m tup") (by assumption) (by k_extra "m tup") ?_; intro _ _ _ _; k_extra "m kept"))
  k_with "call ref" => (k_here; (with_reducible show wpAny _ _ (call (Value.ref 89) _) _ _ _); k_dflt (refine' size_spec (by assumption) (by k_extra "m stays") (by k_extra "m calm") (by k_extra "m tup") (by first | assumption | exact Prs.mono (Fr.keep (by with_reducible assumption)) (by with_reducible assumption)) (by assumption) ?_; intro _ _ _ _; k_extra "m kept"))
  k_with "m prs" => first | with_reducible assumption | exact Prs.mono (Fr.keep (by with_reducible assumption)) (by with_reducible assumption)
  k_with "call ref" => (k_here; (with_reducible show wpAny _ _ (call (Value.ref 108) _) _ _ _); k_dflt (refine' upTo_spec (by assumption) (by k_extra "m stays") (by k_extra "m calm") (by k_extra "m tup") (by k_extra "m prs") (by assumption) ?_; intro _ _ _ kc dc; (obtain ⟨ac, vc, ec, tc, pc⟩ := dc); subst ec; revert kc ac vc tc pc; intro _ _ _ _ _; k_extra "m kept"))
  k_with "call ref" => (k_here; (with_reducible show wpAny _ _ (call (Value.ref 113) _) _ _ _); k_dflt (refine' fromOn_spec (by assumption) (by k_extra "m stays") (by k_extra "m calm") (by k_extra "m tup") (by k_extra "m prs") (by assumption) ?_; intro _ _ _ kc dc; (obtain ⟨ac, vc, ec, tc, pc⟩ := dc); subst ec; revert kc ac vc tc pc; intro _ _ _ _ _; k_extra "m kept"))
  k_with "call ref" => (k_here; (with_reducible show wpAny _ _ (call (Value.ref 120) _) _ _ _); k_dflt (refine' without_spec (by assumption) (by k_extra "m stays") (by k_extra "m calm") (by k_extra "m tup") (by k_extra "m prs") (by assumption) ?_; intro _ _ _ kc dc; (obtain ⟨ac, vc, ec, tc, pc⟩ := dc); subst ec; revert kc ac vc tc pc; intro _ _ _ _ _; k_extra "m kept"))
  k_with "call ref" => (k_here; (with_reducible show wpAny _ _ (call (Value.ref 141) _) _ _ _); k_dflt (refine' struck_spec (by assumption) (by k_extra "m stays") (by k_extra "m calm") (by assumption) (by first | assumption | exact LitAt.mono (Fr.keep (by with_reducible assumption)) (by with_reducible assumption)) (by k_extra "m tup") (by k_extra "m prs") (by assumption) ?_; intro _ _ _ kc dc; (obtain ⟨ac, vc, ec, tc, pc⟩ := dc); subst ec; revert kc ac vc tc pc; intro _ _ _ _ _; k_extra "m kept"))
  k_with "m desk" => first | assumption | exact DeskR.mono (Fr.keep (by with_reducible assumption)) (by assumption) | exact DeskR.mono (by with_reducible assumption) (by assumption)
  k_with "call ref" => (k_here; (with_reducible show wpAny _ _ (call (Value.ref 232) _) _ _ _); k_dflt (refine' width_spec (by assumption) (by k_extra "m stays") (by k_extra "m calm") (by k_extra "m desk") (by assumption) (by assumption) (by k_extra "m tup") (by k_extra "m prs") (by assumption) ?_; intro _ _ _ _; k_extra "m kept"))
  k_with "call ref" => (k_here; (with_reducible show wpAny _ _ (call (Value.ref 218) _) _ _ _); k_dflt (refine' is_fixed_spec (by assumption) (by k_extra "m stays") (by k_extra "m calm") (by k_extra "m desk") (by assumption) (by assumption) (by k_extra "m tup") (by k_extra "m prs") (by assumption) (by assumption) ?_; intro _ _ _; k_extra "m kept"))
  k_with "m in" => (repeat' (first | exact List.forall_mem_nil _ | (refine in_cons ?_ ?_; (with_unfolding_all rfl))))
  k_with "m out" => (intro my' mhy'; (repeat' first | (with_reducible exact rfl) | refine out_mem mhy' (by with_reducible k_extra "m mem") ?_ | refine out_rmem mhy' (by with_reducible k_extra "m mem") ?_ | refine out_same mhy' ?_ _ (by rfl) | refine out_ov mhy' ?_ _ (by kernel_rfl)))
  k_with "m sub" => (intro mp' mhp'; (simp only [List.mem_cons, List.not_mem_nil, or_false, List.mem_append] at mhp' ⊢); (first | exact mhp' | (rcases mhp' with mhp' | mhp' <;> simp [mhp']) | simp [mhp']))
  k_with "m for range" => (k_here; k_dflt (refine' for_rangeF (by with_reducible assumption) (by with_unfolding_all rfl) ?_ (by rfl) (by with_unfolding_all rfl) (by rfl) (by (intro _; rfl)); k_whole))
  k_with "m for tup" => (k_here; k_dflt (refine' for_tupF (by with_reducible assumption) (by with_unfolding_all rfl) ?_ (by rfl) (by with_unfolding_all rfl) (by rfl) (by (intro _; rfl)); k_whole))
  k_with "m for pairs" => (k_here; k_dflt (refine' for_pairsF (by with_reducible assumption) (by with_unfolding_all rfl) ?_ (by rfl) (by with_unfolding_all rfl) (by with_unfolding_all rfl) (by rfl) (by (intro _; rfl)); k_whole))
  k_with "call ref" => (k_here; (with_reducible show wpAny _ _ (call (Value.ref 56) _) _ _ _); k_dflt (refine' median_spec (by assumption) (by k_extra "m stays") (by k_extra "m calm") (by k_extra "m desk") (by assumption) (by assumption) (by k_extra "m tup") (by k_extra "m prs") (by assumption) (by assumption) ?_; intro _ _ _ _; k_extra "m kept"))
  k_with "m map" => first | assumption | exact fr_map (by with_reducible assumption) (by with_reducible assumption)
  k_with "m br" => first | assumption | exact BrR.mono (Fr.keep (by with_reducible assumption)) (by assumption) | exact BrR.mono (by with_reducible assumption) (by assumption)
  k_with "call ref" => (k_here; (with_reducible show wpAny _ _ (call (Value.ref 42) _) _ _ _); k_dflt (refine' rank_spec (by assumption) (by k_extra "m stays") (by k_extra "m calm") (by k_extra "m desk") (by k_extra "m br") (by assumption) (by assumption) (by assumption) (by assumption) (by k_extra "m tup") (by k_extra "m prs") (by assumption) (by assumption) ?_; intro _ _ _ _ _ kc fc oc; (rename Fr _ _ _ _ => kF'); (rename News _ _ _ _ => kN'); (have F' := Fr.keeps kF' kc); (have N' := news_fresh kF' kN' kc fc oc); clear kF' kN'; revert kc fc oc F' N'; intro _ _ _ _ _; (try dsimp only); (try k_fold)))
  k_with "m vars" => first | assumption | exact VarsAt.mono (Fr.keep (by with_reducible assumption)) (by assumption) | exact VarsAt.mono (by with_reducible assumption) (by assumption)
  k_with "call ref" => (k_here; (with_reducible show wpAny _ _ (call (Value.ref 49) _) _ _ _); k_dflt (refine' next_spec' (by assumption) (by k_extra "m stays") (by k_extra "m calm") (by k_extra "m desk") (by k_extra "m br") (by assumption) (by k_extra "m vars") (by assumption) (by assumption) (by assumption) (by assumption) (by assumption) ?_; intro _ _ _ _; k_extra "m kept"))
  k_with "call ref" => (k_here; (with_reducible show wpAny _ _ (call (Value.ref 63) _) _ _ _); k_dflt (refine' choose_spec (by assumption) (by k_extra "m stays") (by k_extra "m calm") (by k_extra "m desk") (by k_extra "m br") (by assumption) (by k_extra "m vars") (by assumption) (by assumption) (by assumption) (by assumption) ?_; intro _ _ _ _ _; k_extra "m kept"))
  k_with "m unit" => first | exact Calm.u1 (by with_reducible assumption)
  k_with "m prs0" => first | exact Prs.mono (Fr.keep (by with_reducible assumption)) (by with_reducible assumption) | with_reducible assumption | exact prs_nil | k_extra "m prs"
  k_with "compareOp Eq ref ref" => (k_here; k_dflt (refine' eq_doms (by k_extra "m tup") (by k_extra "m prs0") (by k_extra "m tup") (by k_extra "m prs0") (by k_extra "m unit") ?_; k_whole))
  k_with "compareOp NotEq ref ref" => (k_here; k_dflt first | (apply ne_nil; (case hy => k_extra "m list"); (case hx => k_extra "m list"); (case hu => exact Calm.u (by with_reducible assumption)); k_whole) | (apply ne_doms; (case hx => k_extra "m tup"); (case px => k_extra "m prs0"); (case hy => k_extra "m tup"); (case py => k_extra "m prs0"); (case hu => k_extra "m unit"); k_whole))
  k_with "call builtin:list.append" => (k_here; (with_reducible show wpAny _ _ (call (Value.builtin _) [Value.ref _, _]) _ _ _); k_dflt (refine' append_L (by k_asm) (by k_asm) (by k_upd) (by first | assumption | omega | (simp only [List.length_append, List.length_cons, List.length_nil]; omega)) ?_; k_whole); intro _ _ N'; (try dsimp only [List.nil_append, List.cons_append] at N'); revert N'; intro _; (try k_sweep))
  k_with "m enter" => (k_extra "m around"; k_extra "m fill"; refine wpAny_call ?_; k_dflt (refine' enter _ (by assumption) (by assumption) (by assumption) (by assumption) (by k_is) (by k_is) (by exact BindsTo.of_eq rfl) (by exact locs rfl) ?_ (by exact rfl) (by exact rfl) (by exact rfl) (by decide); k_whole; intro _ _ _ _ _ _ _ _ _ _ _ _ _ _; (try dsimp only); (try k_fold)))
  k_with "setItem ref int" => (k_here; k_dflt (apply set_L; (case F => k_asm); (case N => k_asm); (case U => k_upd); (case hx => assumption); (case hz => assumption); k_whole); intro _ _ N'; (try dsimp only [List.nil_append, List.cons_append] at N'); revert N'; intro _)
  k_with "setItem ref int" => (k_here; k_dflt (refine' setD_L (by k_asm) (by k_asm) (by k_updF) (by assumption) (by assumption) ?_; k_whole); intro _ _ _ _ _ N'; (try dsimp only [List.nil_append, List.cons_append] at N'); revert N'; intro _)
  k_with "call builtin:list.pop" => (k_here; (with_reducible show wpAny _ _ (call (Value.builtin _) [Value.ref _]) _ _ _); k_dflt (apply pop_L; (case F => k_asm); (case N => k_asm); (case U => k_upd); (case hz => assumption); k_whole); intro _ _ N'; (try dsimp only [List.nil_append, List.cons_append] at N'); revert N'; intro _)
  k_with "m cls" => first | (simp only [ne_eq, Value.type.injEq, reduceCtorEq, not_false_eq_true]; done) | (simp; done) | ((rename Obj.cls _ = Value.type "dict" => hq'); rw [hq']; simp; done)
  k_with "k ne" => first | (refine neN ?_; (try dsimp only); first | k_extra "m ne0" | omega) | exact news_ne (by with_reducible assumption) (by k_mem) (by k_mem) (by k_extra "m cls")
  k_with "k all" => exact allLt_ne (by assumption)
  k_with "m own" => (intro _ _; k_ownIn)
  k_with "m tup" => first | assumption | exact fr_tup (by with_reducible assumption) (by with_reducible assumption) | exact News.isTup (by with_reducible assumption) (by news_mem) | exact InPn.tup (by with_reducible assumption) (by with_reducible assumption) (by with_reducible assumption) (by k_extra "m own")
  k_with "m prs0" => first | exact Prs.mono (Fr.keep (by with_reducible assumption)) (by with_reducible assumption) | with_reducible assumption | exact prs_nil | exact InPn.prs (by with_reducible assumption) (by with_reducible assumption) (by with_reducible assumption) (by k_extra "m own") | k_extra "m prs"
  k_with "m off" => (repeat' first | exact List.forall_mem_nil _ | (refine in_cons ?_ ?_; k_ne))
  k_with "m offall" => (repeat' first | exact List.forall_mem_nil _ | (refine in_cons ?_ ?_; k_all))
  k_with "k inst" => exact instAt_mixed (by assumption) (by assumption) (by assumption) (by k_mem)
  k_with "m full" => first | assumption | exact FullTups.mono (Fr.keep (by with_reducible assumption)) (by assumption)
  k_with "compareOp In ref ref" => (k_here; k_dflt (refine' in_firsts (by k_extra "m list") (by k_extra "m full") (by k_extra "m tup") (by k_extra "m unit") ?_; k_whole))
  k_with "m slice" => first | (apply slice_upto; (case F => k_asm); (case N => k_asm); (case hl => k_extra "m list"); (case hz => first | assumption | omega); (case hk => assumption); (case hj => assumption); (case hs => with_unfolding_all rfl); k_whole) | (apply slice_from; (case F => k_asm); (case N => k_asm); (case hl => k_extra "m list"); (case hz => first | assumption | omega); (case hk => assumption); (case hj => assumption); (case hs => with_unfolding_all rfl); k_whole)
  k_with "subscriptTail Attribute Slice ref ref" => (k_here; k_dflt (k_extra "m slice"); intro _ _ _ _ l'; (k_lt l'); revert l'; intro _; (try k_sweep))
  k_with "subscriptTail Name Slice ref ref" => (k_here; k_dflt (k_extra "m slice"); intro _ _ _ _ l'; (k_lt l'); revert l'; intro _; (try k_sweep))
  k_with "exec While Compare" => (k_here; k_dflt (refine' while_src (by with_reducible assumption) (by passes_own) ?_))
  k_with "call ref" => (k_here; (with_reducible show wpAny _ _ (call (Value.ref 309) _) _ _ _); k_dflt (refine' far_spec (by assumption) (by k_extra "m stays") (by k_extra "m calm") ?_; intro _ _ _ _; k_extra "m kept"))
  k_with "call ref" => (k_here; (with_reducible show wpAny _ _ (call (Value.ref 328) _) _ _ _); k_dflt (refine' many_spec (by assumption) (by k_extra "m stays") (by k_extra "m calm") (by k_extra "m list") (by k_extra "m prs") (by assumption) ?_; intro _ _ _ _; k_extra "m kept"))
  k_with "call ref" => (k_here; (with_reducible show wpAny _ _ (call (Value.ref 335) _) _ _ _); k_dflt (refine' half_spec (by assumption) (by k_extra "m stays") (by k_extra "m calm") (by k_extra "m list") (by k_extra "m prs") (by assumption) ?_; intro _ _ _; k_extra "m kept"))
  k_with "call ref" => (k_here; (with_reducible show wpAny _ _ (call (Value.ref 316) _) _ _ _); (rename Fr _ _ _ _ => kF'); (rename News _ _ _ _ => kN'); k_dflt (apply draw_spec; (case C => assumption); (case hB => k_extra "m stays"); (case hA => k_extra "m calm"); (case hm => exact hm_one kN' (by k_mem) (by with_reducible assumption)); (case hbo => assumption); (case hnm => assumption); (case hcl => k_extra "m list"); (case hcb => assumption); (case hci => assumption); (case hcz => assumption); (case hmany => first | assumption | omega | (simp only [Int.reduceToNat]; omega) | decide); (case hnb => omega); intro hc tkc oc rc tc kc ec bc r0c r1c; (try simp only [Int.reduceToNat] at r1c); (rename Obj.cls _ = Value.type "dict" => hold'); (have FN' := fr_upd kF' kN' (by k_updF) kc ec); (obtain ⟨F', N'⟩ := FN'); clear kF' kN' hold'; (have dcls' := BagIs.cls bc); (try dsimp only at N'); revert hc tkc oc rc tc kc ec bc r0c r1c F' N' dcls'; intro _ _ _ _ _ _ _ _ _ _ _ _ _; (try dsimp only); (try k_fold)))
  k_with "m ints" => (repeat' (first | exact List.forall_mem_nil _ | (refine (in_cons (⟨_, _, rfl, by (try dsimp only); (try simp only [Int.reduceToNat]); omega⟩) (?_)))))
  k_with "subscriptTail" => (k_here; (with_reducible show wpAny _ _ (subscriptTail _ _ (Value.ref _) (Value.int _ _)) _ _ _); first | (apply tup_pick (fun n => 0 ≤ n ∧ n ≤ 10 ^ 15); (case ht => exact News.isTup (by with_reducible assumption) (by k_mem)); (case h0 => assumption); (case h1 => (simp only [List.length_cons, List.length_nil]; omega)); (case hz => (simp only [List.length_cons, List.length_nil]; omega)); (case hall => k_extra "m ints"); k_whole; intro _ _ px; (have px1 := px.1); (have px2 := px.2); clear px; revert px1 px2; intro _ _) | (apply tup_pick (fun n => -(10 ^ 30) ≤ n ∧ n ≤ 10 ^ 30); (case ht => exact News.isTup (by with_reducible assumption) (by k_mem)); (case h0 => assumption); (case h1 => (simp only [List.length_cons, List.length_nil]; omega)); (case hz => (simp only [List.length_cons, List.length_nil]; omega)); (case hall => k_extra "m ints"); k_whole; intro _ _ px; (have px1 := px.1); (have px2 := px.2); clear px; revert px1 px2; intro _ _))
  k_with "newTuple" => (k_here; k_dflt (refine' newTuple_L (by k_asm) (by k_asm) ?_ (by size_fits); k_whole); intro _ _ _ _ l1; (k_lt l1); revert l1; intro _; (try k_sweep))
  k_with "m om" => ((try simp only [Int.reduceToNat]); omega)
  k_with "m for enum" => (k_here; k_dflt (refine' for_enumF (by with_reducible assumption) (by with_unfolding_all rfl) ?_ (by rfl) (by with_unfolding_all rfl) (by with_unfolding_all rfl) (by rfl) (by (intro _; rfl)); k_whole))
  k_with "call type:enumerate" => (k_here; k_dflt (refine' enum_call (by k_asm) (by k_asm) (by k_extra "m list") ?_; k_whole; intro _ _ _ _ _ _ _ _ _ _ _))
  k_with "m lots" => first | assumption | exact LotsAt.mono (Fr.keep (by with_reducible assumption)) (by assumption)
  k_with "call ref" => (k_here; (with_reducible show wpAny _ _ (call (Value.ref 347) _) _ _ _); k_dflt (refine' wanted_spec (by assumption) (by k_extra "m stays") (by k_extra "m calm") (by k_extra "m list") (by k_extra "m lots") (by k_extra "m list") (by assumption) (by assumption) (by assumption) (by k_extra "m list") (by assumption) (by assumption) (by assumption) ?_; intro _ _ _ _ _; k_extra "m kept"))
  k_with "call ref" => (k_here; (with_reducible show wpAny _ _ (call (Value.ref 354) _) _ _ _); k_dflt (refine' place_spec (by assumption) (by k_extra "m stays") (by k_extra "m calm") (by k_extra "m desk") (by k_extra "m br") (by assumption) (by k_extra "m vars") (by assumption) (by assumption) (by assumption) (by assumption) (by k_extra "m list") (by k_extra "m lots") (by assumption) (by assumption) ?_; intro _ _ _; k_extra "m kept"))
  k_with "m perm" => (repeat' first | exact List.forall_mem_nil _ | (refine in_cons ?_ ?_; k_extra "m mem") | (intro _ _; k_ownIn))
  trivial
section
theorem off89 : True := by
  w_top off
  trivial
theorem own89_1 : True := by
  k_with "m enter2" => (k_extra "m around"; k_extra "m fill"; k_dflt (refine' enter _ (by assumption) (by assumption) (by assumption) (by assumption) (by k_is) (by k_is) (by exact BindsTo.of_eq rfl) (by exact locs rfl) ?_ (by exact rfl) (by exact rfl) (by exact rfl) (by decide); k_whole; intro _ _ _ _ _ _ _ _ _ _ _ _ _ _; (try dsimp only); (try k_fold)))
  trivial
section
variable {w : World} {mean : ExcName → Option Value} {mg mb : PySem.Str → Option Value} {B : Heap} {A : Around} {s : Shared} {Q E : Value → Shared → Prop} {g : Heap} {L : Addr} {m : PySem.Str → Option Value} {news : List (Addr × Obj)}
set_option pp.deepTerms false
set_option pp.deepTerms.threshold 3
theorem brancher_call {rl : Addr} {rv : List Value} {on : PySem.Str} {t1 t2 : Tok} (C : Core w mean mg mb B) (hBg : Stays B g) (F : Fr g L s.heap m) (N : News g L s.heap news) (hA : Calm A 5) {nr : Nat} (hr : (rl, lstObj rv nr) ∈ news) (hz : rv.length ≤ 1000)
  (hret : ∀ h' tk' x d sa dg od hs ts, Fr g L h' m → News g L h' ((x, brObj d) :: (d, dictOf (brEs hs ts (.ref sa) (.str on t1) (.str (Str.ofString "median") t2) (.ref dg)) 4) :: (sa, tupObj rv) :: (dg, od) :: news) → Obj.IsDictOf (intKind PR w) od [] → (dg == sysModules) = false → (∀ p ∈ news, p.1 < d) → @LT.lt Nat _ d x → @LT.lt Nat _ x dg → Q (.ref x) {s with heap := h', toks := tk'}) :
  wpAny (model PR w) A (call (.ref 66) [.ref rl, .str on t1, .str (Str.ofString "median") t2]) Q E s := by
  have X' := C.X.keeps hBg
  have hBs : Stays B s.heap := stays_fr hBg F
  k_extra "m fill"
  k_dflt (refine' call_cls F X' N ?k4 ?k5 ?k6 ?_; (case k4 => k_is); (case k5 => k_is); (case k6 => k_is); k_whole)
  intro x d h1 F1 N1 l1 l2
  have hU := Calm.under (C := 66) (vals := [.ref rl, .str on t1, .str (Str.ofString "median") t2]) hA
  have hB1 : Stays B h1 := stays_fr hBg F1
  have hmu : ∀ p ∈ [(x, instObj 66 d), (d, dictOf [] 0)], h1.get? p.1 = some p.2 ∧ B.get? p.1 = none := fun p hp => by
    have y : p ∈ (x, instObj 66 d) :: (d, dictOf [] 0) :: news := by
      simp only [List.mem_cons, List.not_mem_nil, or_false] at hp
      rcases hp with rfl | rfl <;> simp
    refine ⟨(N1 p y).1, ?_⟩
    cases q : B.get? p.1 with
    | none => rfl
    | some o => have := hBg _ _ q; rw [(N1 p y).2.2] at this; cases this
  have hd0 : g.get? d = none := (N1 (d, dictOf [] 0) (.tail _ (.head _))).2.2
  have hx0 : g.get? x = none := (N1 (x, instObj 66 d) (.head _)).2.2
  have hdL : @Ne Nat d L := (N1 (d, dictOf [] 0) (.tail _ (.head _))).2.1
  have hxL : @Ne Nat x L := (N1 (x, instObj 66 d) (.head _)).2.1
  have hgd : Stays g h1 := F1.keep
  obtain ⟨oL, hoL⟩ : ∃ oL, h1.get? L = some oL := by obtain ⟨oL, _, _, hL, _⟩ := F1.ns; exact ⟨oL, hL⟩
  have hLd : ∀ h', StaysBut [x, d] h1 h' → Fr g L h' m ∧ News g L h' news := fun h' k => by
    refine ⟨⟨F1.ns.at' fun o e => k _ o ?_ e, fun b o e => k b o ?_ (F1.keep b o e), F1.above⟩, fun p hp => ⟨k _ _ ?_ (N1 p (.tail _ (.tail _ hp))).1, (N1 p (.tail _ (.tail _ hp))).2⟩⟩
    · simp only [List.mem_cons, List.not_mem_nil, or_false, not_or]; exact ⟨Ne.symm hxL, Ne.symm hdL⟩
    · simp only [List.mem_cons, List.not_mem_nil, or_false, not_or]
      exact ⟨fun q => by (rw [q, hx0] at e; cases e), fun q => by (rw [q, hd0] at e; cases e)⟩
    · simp only [List.mem_cons, List.not_mem_nil, or_false, not_or]
      have a1 : @LT.lt Nat _ p.1 d := l1 p hp
      have a2 : @LT.lt Nat _ d x := l2
      exact ⟨fun q => by (rw [q] at a1; omega), fun q => by (rw [q] at a1; omega)⟩
  have hr1 : h1.IsList rl rv.toArray := N1.isList (.tail _ (.tail _ hr))
  have hrn : rl ∉ [x, d] := by
    simp only [List.mem_cons, List.not_mem_nil, or_false, not_or]
    have a1 : @LT.lt Nat _ rl d := l1 _ hr
    have a2 : @LT.lt Nat _ d x := l2
    exact ⟨Nat.ne_of_lt (Nat.lt_trans a1 a2), Nat.ne_of_lt a1⟩
  have hzz : rv.length ≤ sizeLine := le_sizeLine hz
  clear hA N F hBs N1 F1
  generalize A.under _ = A2 at hU ⊢
  k_extra "m enter2"
  rename_i g0 L0 h0 tk0 hg0 hL0 F0 N0 X0 T0 hB0 kg0 hlt0 hA0
  have hr2 := isList_of kg0 hr1 hrn
  k_steps
  rename Fr _ _ _ _ => F3
  rename News _ _ _ _ => N3
  rename Obj.IsDictOf (intKind PR w) _ [] => hdi
  rename_i dt a0 a1 a2 a3 a4 a5 dgg a6 oo lo hs1 fs1 fi1 lc a7
  refine ⟨rfl, ?_⟩
  rw [brEs_of] at N3
  have hk : StaysBut [x, d] h1 _ := fun b o hn e => F3.keep b o (kg0 b o hn e)
  obtain ⟨F4, N4⟩ := hLd _ hk
  dsimp only
  have kgx : ∀ (b : Addr) o, b ∉ [x, d] → h1.get? b = some o → g0.get? b = some o := kg0
  have yx : (a7).get? x = some (brObj d) ∧ @Ne Nat x L ∧ g.get? x = none := ⟨(N3 _ (.tail _ (.tail _ (.head _)))).1, hxL, hx0⟩
  have yD := (N3 _ (.tail _ (.tail _ (.tail _ (.head _))))).1
  have nx := news_ne N3 (.tail _ (.head _)) (.tail _ (.tail _ (.head _))) (by simp)
  have nd := news_ne N3 (.tail _ (.head _)) (.tail _ (.tail _ (.tail _ (.head _)))) (by simp)
  have ydt : (a7).get? dt = some (tupObj rv) ∧ @Ne Nat dt L ∧ g.get? dt = none := ⟨(N3 _ (.tail _ (.head _))).1, fresh_back kgx hgd hoL (Ne.symm hxL) (Ne.symm hdL) (N3 (dt, tupObj rv) (.tail _ (.head _))).2.2 nx nd⟩
  have ydg : (a7).get? dgg = some oo ∧ @Ne Nat dgg L ∧ g.get? dgg = none := ⟨(N3 _ (.head _)).1, fresh_back kgx hgd hoL (Ne.symm hxL) (Ne.symm hdL) (N3 (dgg, oo) (.head _)).2.2 (Ne.symm (Nat.ne_of_lt (by k_extra "m lt"))) (Ne.symm (Nat.ne_of_lt (by k_extra "m lt")))⟩
  exact hret _ _ x d dt dgg oo _ _ F4 (news_c yx (news_c ⟨yD, hdL, hd0⟩ (news_c ydt (news_c ydg N4)))) hdi lo l1 l2 (by omega)
end

end
theorem rows89 : True := by
  k_with_none
  k_with "m mem" => first | exact mem0 | exact mem1 | exact mem2 | exact mem3 | (refine' mem4 ?_; k_extra "m mem")
  k_with "k ne" => (refine neN ?_; (try dsimp only); k_extra "m ne0")
  k_with "m lt0" => first | with_reducible assumption | (refine lt_from (by with_reducible assumption) ?_; intro hh; first | exact hh.1 | exact hh.2 | exact hh.2.1 | exact hh.2.2 | exact hh.2.2.1 | exact hh.2.2.2 | exact hh.2.2.2.1 | exact hh.2.2.2.2 | exact hh.2.2.2.2.1 | exact hh.2.2.2.2.2 | exact hh.2.2.2.2.2.1 | exact hh.2.2.2.2.2.2 | exact hh.2.2.2.2.2.2.1 | exact hh.2.2.2.2.2.2.2 | exact hh.2.2.2.2.2.2.2.1 | exact hh.2.2.2.2.2.2.2.2 | exact hh.2.2.2.2.2.2.2.2.1 | exact hh.2.2.2.2.2.2.2.2.2 | exact hh.2.2.2.2.2.2.2.2.2.1 | exact hh.2.2.2.2.2.2.2.2.2.2 | exact hh.2.2.2.2.2.2.2.2.2.2.1 | exact hh.2.2.2.2.2.2.2.2.2.2.2 | exact hh.2.2.2.2.2.2.2.2.2.2.2.1 | exact hh.2.2.2.2.2.2.2.2.2.2.2.2 | exact hh.2.2.2.2.2.2.2.2.2.2.2.2.1 | exact hh.2.2.2.2.2.2.2.2.2.2.2.2.2 | exact hh.2.2.2.2.2.2.2.2.2.2.2.2.2.1 | exact hh.2.2.2.2.2.2.2.2.2.2.2.2.2.2 | exact hh.2.2.2.2.2.2.2.2.2.2.2.2.2.2.1 | exact hh.2.2.2.2.2.2.2.2.2.2.2.2.2.2.2 | exact hh.2.2.2.2.2.2.2.2.2.2.2.2.2.2.2.1 | exact hh.2.2.2.2.2.2.2.2.2.2.2.2.2.2.2.2 | exact hh.2.2.2.2.2.2.2.2.2.2.2.2.2.2.2.2.1 | exact hh.2.2.2.2.2.2.2.2.2.2.2.2.2.2.2.2.2 | exact hh.2.2.2.2.2.2.2.2.2.2.2.2.2.2.2.2.2.1 | exact hh.2.2.2.2.2.2.2.2.2.2.2.2.2.2.2.2.2.2 | exact hh.2.2.2.2.2.2.2.2.2.2.2.2.2.2.2.2.2.2.1 | exact hh.2.2.2.2.2.2.2.2.2.2.2.2.2.2.2.2.2.2.2 | exact hh.2.2.2.2.2.2.2.2.2.2.2.2.2.2.2.2.2.2.2.1 | exact hh.2.2.2.2.2.2.2.2.2.2.2.2.2.2.2.2.2.2.2.2 | exact hh.2.2.2.2.2.2.2.2.2.2.2.2.2.2.2.2.2.2.2.2.1 | exact hh.2.2.2.2.2.2.2.2.2.2.2.2.2.2.2.2.2.2.2.2.2 | exact hh.2.2.2.2.2.2.2.2.2.2.2.2.2.2.2.2.2.2.2.2.2.1 | exact hh.2.2.2.2.2.2.2.2.2.2.2.2.2.2.2.2.2.2.2.2.2.2)
  k_with "m lt" => first | k_extra "m lt0" | omega
  k_with "m ne0" => first | with_reducible assumption | exact Ne.symm (by with_reducible assumption) | exact Nat.ne_of_lt (by k_extra "m lt0") | exact Nat.ne_of_gt (by k_extra "m lt0")
  k_with "m fill" => (have hfill : Challenge.rw_pq0372_01 = Challenge.rw_pq0372_01 ∧ KF = KF := (by k_fill; exact ⟨rfl, rfl⟩); clear hfill)
  k_with "m around" => ((rename Around => mA'); (rcases mA' with ⟨_, _, _, _, _⟩); (have mE' := Calm.hh (by with_reducible assumption)); (dsimp only at mE'); subst mE')
  k_with "m enter0" => (k_extra "m around"; k_extra "m fill"; refine wpAny_call ?_; k_dflt (refine' enter0 (by assumption) (by assumption) (by assumption) (by k_is) (by k_is) (by exact BindsTo.of_eq rfl) (by exact locs rfl) ?_ (by exact rfl) (by exact rfl) (by exact rfl) (by decide); k_whole; intro _ _ _ _ _ _ _ _ _; (try dsimp only); (try k_fold)))
  k_with "m enterC0" => (k_extra "m around"; k_extra "m fill"; refine wpAny_call ?_; k_dflt (refine' enterC0 (by assumption) (by assumption) (by assumption) (by k_is) (by k_is) (by exact BindsTo.of_eq rfl) (by rfl) (by decide) ?_ (by exact rfl) (by exact rfl) (by exact rfl); k_whole; intro _ _ _ _ _ _ _ _ _ _ _; (try dsimp only); (try k_fold)))
  k_with "m cell1" => ((rename CellsAre _ _ _ => mY'); (with_unfolding_all have mY2' := CellsAre.one mY'); (obtain ⟨_, me', _⟩ := mY2'); (subst me'); clear mY')
  k_with "m cell2" => ((rename CellsAre _ _ _ => mY'); (with_unfolding_all have mY2' := CellsAre.two mY'); (obtain ⟨_, _, me', _, _⟩ := mY2'); (subst me'); clear mY')
  k_with "m tup" => first | assumption | exact fr_tup (by with_reducible assumption) (by with_reducible assumption) | exact News.isTup (by with_reducible assumption) (by news_mem)
  k_with "m list" => first | assumption | exact fr_list (by with_reducible assumption) (by with_reducible assumption) | exact News.isList (by with_reducible assumption) (by news_mem)
  k_with "call builtin:len" => (k_here; (with_reducible show wpAny _ _ (call (Value.builtin "len") [Value.ref _]) _ _ _); k_dflt first | (refine' len_tup (by k_extra "m tup") (by first | assumption | (with_reducible decide) | omega | (simp only [List.length_append, List.length_cons, List.length_nil]; first | decide | omega)) ?_; k_whole; intro _ _) | (refine' len_lst (by k_extra "m list") (by first | assumption | (with_reducible decide) | omega | (simp only [List.length_append, List.length_cons, List.length_nil]; first | decide | omega)) ?_; k_whole; intro _ _))
  k_with "subscriptTail" => (k_here; (with_reducible show wpAny _ _ (subscriptTail _ _ (Value.ref _) (Value.int (-1) _)) _ _ _); (with_unfolding_all refine' tup_last (by k_extra "m tup") (by first | assumption | rfl) ?_ (by with_unfolding_all rfl); k_whole))
  k_with "subscriptTail" => (k_here; (with_reducible show wpAny _ _ (subscriptTail _ _ (Value.ref _) (Value.int _ _)) _ _ _); (with_unfolding_all apply tup_at); (case ht => k_extra "m tup"); (first | ((case hk => with_unfolding_all rfl); (case hx => first | assumption | rfl)) | ((case hx => assumption); (case hk => omega))); (case hf => first | decide | omega); (case hs => with_unfolding_all rfl); k_whole)
  k_with "subscriptTail" => (k_here; (with_reducible show wpAny _ _ (subscriptTail _ _ (Value.ref _) (Value.int _ _)) _ _ _); (with_unfolding_all apply list_at); (case ht => k_extra "m list"); (first | ((case hk => with_unfolding_all rfl); (case hx => first | assumption | rfl)) | ((case hx => assumption); (case hk => omega))); (case hf => first | decide | omega); (case hs => with_unfolding_all rfl); k_whole)
  k_with "k inst" => exact instAt_base (by assumption) (by assumption) (by assumption)
  k_with "m stays" => first | with_reducible assumption | exact stays_fr (by with_reducible assumption) (by with_reducible assumption)
  k_with "m calm" => exact Calm.le (by assumption) (by decide)
  k_with "m kept" => ((rename Fr _ _ _ _ => kF'); (rename News _ _ _ _ => kN'); (refine kept_of (by with_reducible assumption) kF' kN' ?_); clear kF' kN'; intro _ _; (try dsimp only); (try k_fold))
  k_with "eval Name" => ((with_reducible show wpAny _ _ (eval (Expr.Name _ _) (compEnvC _ _ _ _)) _ _ _); k_dflt first | (apply comp_local; (case F => with_reducible assumption); (case hk => rfl); (case hl => with_unfolding_all rfl); (case hd => decide); (case hm => first | with_reducible assumption | with_unfolding_all rfl); k_whole) | (apply comp_cell; (case F => with_reducible assumption); (case hk => rfl); (case hl => with_unfolding_all rfl); (case hd => decide); (case hc => with_unfolding_all rfl); (case ho => assumption); (case hv => with_reducible assumption); k_whole) | (apply comp_builtin; (case F => with_reducible assumption); (case T => with_reducible assumption); (case k => with_reducible assumption); (case hg => rfl); (case hb => rfl); (case hk => rfl); (case hx => with_unfolding_all rfl); (case hd => decide); (case h2 => first | exact mb_max (by with_reducible assumption) | exact mb_min (by with_reducible assumption)); (case h1 => first | exact mg_max (by with_reducible assumption) | exact mg_min (by with_reducible assumption)); k_whole))
  k_with "call builtin:max" => ((with_reducible show wpAny _ _ (call (Value.builtin _) [Value.int _ _, Value.int _ _]) _ _ _); k_dflt (refine' comp_max (by with_reducible assumption) (by first | exact Calm.hh (by assumption) | with_unfolding_all rfl) ?_; k_whole; intro _ _ _ _ _))
  k_with "call builtin:min" => ((with_reducible show wpAny _ _ (call (Value.builtin _) [Value.int _ _, Value.int _ _]) _ _ _); k_dflt (refine' comp_min (by with_reducible assumption) (by first | exact Calm.hh (by assumption) | with_unfolding_all rfl) ?_; k_whole; intro _ _ _ _ _))
  k_with "newTuple" => (k_dflt (refine' comp_tuple (by with_reducible assumption) ?_ (by rfl); k_whole; intro _ _ _ _))
  k_with "call type:tuple" => ((with_reducible show wpAny _ _ (call (Value.type _) [Value.ref _]) _ _ _); k_dflt (refine' tuple_of (by with_reducible assumption) (by with_reducible assumption) (by k_extra "m list") (by first | assumption | omega) ?_; k_whole; intro _ _ _ _ _ _))
  k_with "call ref" => (k_here; (with_reducible show wpAny _ _ (call (Value.ref 77) _) _ _ _); k_dflt (refine' least_spec (by assumption) (by k_extra "m stays") (by k_extra "m calm") (by k_extra "m tup") (by assumption) (by k_extra "m tup") ?_; intro _ _ _ _; k_extra "m kept"))
  k_with "call ref" => (k_here; (with_reducible show wpAny _ _ (call (Value.ref 84) _) _ _ _); k_dflt (refine' greatest_spec (by assumption) (by k_extra "m stays") (by k_extra "m calm") (by k_extra "m tup") (by assumption) (by k_extra "m tup") ?_; intro _ _ _ _; k_extra "m kept"))
  k_with "call ref" => (k_here; (with_reducible show wpAny _ _ (call (Value.ref 183) _) _ _ _); k_dflt (refine' dom_spec (by assumption) (by k_extra "m stays") (by k_extra "m calm") (by k_extra "m desk") (by assumption) (by assumption) ?_; intro _ _ _; k_extra "m kept"))
  k_with "call ref" => (k_here; (with_reducible show wpAny _ _ (call (Value.ref 197) _) _ _ _); k_dflt (refine' low_spec (by assumption) (by k_extra "m stays") (by k_extra "m calm") (by k_extra "m desk") (by assumption) (by assumption) (by k_extra "m tup") (by assumption) (by k_extra "m tup") ?_; intro _ _ _ _; k_extra "m kept"))
  k_with "call ref" => (k_here; (with_reducible show wpAny _ _ (call (Value.ref 204) _) _ _ _); k_dflt (refine' high_spec (by assumption) (by k_extra "m stays") (by k_extra "m calm") (by k_extra "m desk") (by assumption) (by assumption) (by k_extra "m tup") (by assumption) (by k_extra "m tup") ?_; intro _ _ _ _; k_extra "m kept"))
  k_with "call ref" => (k_here; (with_reducible show wpAny _ _ (call (Value.ref 89) _) _ _ _); k_dflt (refine' size_spec (by assumption) (by k_extra "m stays") (by k_extra "m calm") (by k_extra "m tup") (by first | assumption | exact Prs.mono (Fr.keep (by with_reducible assumption)) (by with_reducible assumption)) (by assumption) ?_; intro _ _ _ _; k_extra "m kept"))
  k_with "m prs" => first | with_reducible assumption | exact Prs.mono (Fr.keep (by with_reducible assumption)) (by with_reducible assumption)
  k_with "call ref" => (k_here; (with_reducible show wpAny _ _ (call (Value.ref 108) _) _ _ _); k_dflt (refine' upTo_spec (by assumption) (by k_extra "m stays") (by k_extra "m calm") (by k_extra "m tup") (by k_extra "m prs") (by assumption) ?_; intro _ _ _ kc dc; (obtain ⟨ac, vc, ec, tc, pc⟩ := dc); subst ec; revert kc ac vc tc pc; intro _ _ _ _ _; k_extra "m kept"))
  k_with "call ref" => (k_here; (with_reducible show wpAny _ _ (call (Value.ref 113) _) _ _ _); k_dflt (refine' fromOn_spec (by assumption) (by k_extra "m stays") (by k_extra "m calm") (by k_extra "m tup") (by k_extra "m prs") (by assumption) ?_; intro _ _ _ kc dc; (obtain ⟨ac, vc, ec, tc, pc⟩ := dc); subst ec; revert kc ac vc tc pc; intro _ _ _ _ _; k_extra "m kept"))
  k_with "call ref" => (k_here; (with_reducible show wpAny _ _ (call (Value.ref 120) _) _ _ _); k_dflt (refine' without_spec (by assumption) (by k_extra "m stays") (by k_extra "m calm") (by k_extra "m tup") (by k_extra "m prs") (by assumption) ?_; intro _ _ _ kc dc; (obtain ⟨ac, vc, ec, tc, pc⟩ := dc); subst ec; revert kc ac vc tc pc; intro _ _ _ _ _; k_extra "m kept"))
  k_with "call ref" => (k_here; (with_reducible show wpAny _ _ (call (Value.ref 141) _) _ _ _); k_dflt (refine' struck_spec (by assumption) (by k_extra "m stays") (by k_extra "m calm") (by assumption) (by first | assumption | exact LitAt.mono (Fr.keep (by with_reducible assumption)) (by with_reducible assumption)) (by k_extra "m tup") (by k_extra "m prs") (by assumption) ?_; intro _ _ _ kc dc; (obtain ⟨ac, vc, ec, tc, pc⟩ := dc); subst ec; revert kc ac vc tc pc; intro _ _ _ _ _; k_extra "m kept"))
  k_with "m desk" => first | assumption | exact DeskR.mono (Fr.keep (by with_reducible assumption)) (by assumption) | exact DeskR.mono (by with_reducible assumption) (by assumption)
  k_with "call ref" => (k_here; (with_reducible show wpAny _ _ (call (Value.ref 232) _) _ _ _); k_dflt (refine' width_spec (by assumption) (by k_extra "m stays") (by k_extra "m calm") (by k_extra "m desk") (by assumption) (by assumption) (by k_extra "m tup") (by k_extra "m prs") (by assumption) ?_; intro _ _ _ _; k_extra "m kept"))
  k_with "call ref" => (k_here; (with_reducible show wpAny _ _ (call (Value.ref 218) _) _ _ _); k_dflt (refine' is_fixed_spec (by assumption) (by k_extra "m stays") (by k_extra "m calm") (by k_extra "m desk") (by assumption) (by assumption) (by k_extra "m tup") (by k_extra "m prs") (by assumption) (by assumption) ?_; intro _ _ _; k_extra "m kept"))
  k_with "m in" => (repeat' (first | exact List.forall_mem_nil _ | (refine in_cons ?_ ?_; (with_unfolding_all rfl))))
  k_with "m out" => (intro my' mhy'; (repeat' first | (with_reducible exact rfl) | refine out_mem mhy' (by with_reducible k_extra "m mem") ?_ | refine out_rmem mhy' (by with_reducible k_extra "m mem") ?_ | refine out_same mhy' ?_ _ (by rfl) | refine out_ov mhy' ?_ _ (by kernel_rfl)))
  k_with "m sub" => (intro mp' mhp'; (simp only [List.mem_cons, List.not_mem_nil, or_false, List.mem_append] at mhp' ⊢); (first | exact mhp' | (rcases mhp' with mhp' | mhp' <;> simp [mhp']) | simp [mhp']))
  k_with "m for range" => (k_here; k_dflt (refine' for_rangeF (by with_reducible assumption) (by with_unfolding_all rfl) ?_ (by rfl) (by with_unfolding_all rfl) (by rfl) (by (intro _; rfl)); k_whole))
  k_with "m for tup" => (k_here; k_dflt (refine' for_tupF (by with_reducible assumption) (by with_unfolding_all rfl) ?_ (by rfl) (by with_unfolding_all rfl) (by rfl) (by (intro _; rfl)); k_whole))
  k_with "m for pairs" => (k_here; k_dflt (refine' for_pairsF (by with_reducible assumption) (by with_unfolding_all rfl) ?_ (by rfl) (by with_unfolding_all rfl) (by with_unfolding_all rfl) (by rfl) (by (intro _; rfl)); k_whole))
  k_with "call ref" => (k_here; (with_reducible show wpAny _ _ (call (Value.ref 56) _) _ _ _); k_dflt (refine' median_spec (by assumption) (by k_extra "m stays") (by k_extra "m calm") (by k_extra "m desk") (by assumption) (by assumption) (by k_extra "m tup") (by k_extra "m prs") (by assumption) (by assumption) ?_; intro _ _ _ _; k_extra "m kept"))
  k_with "m map" => first | assumption | exact fr_map (by with_reducible assumption) (by with_reducible assumption)
  k_with "m br" => first | assumption | exact BrR.mono (Fr.keep (by with_reducible assumption)) (by assumption) | exact BrR.mono (by with_reducible assumption) (by assumption)
  k_with "call ref" => (k_here; (with_reducible show wpAny _ _ (call (Value.ref 42) _) _ _ _); k_dflt (refine' rank_spec (by assumption) (by k_extra "m stays") (by k_extra "m calm") (by k_extra "m desk") (by k_extra "m br") (by assumption) (by assumption) (by assumption) (by assumption) (by k_extra "m tup") (by k_extra "m prs") (by assumption) (by assumption) ?_; intro _ _ _ _ _ kc fc oc; (rename Fr _ _ _ _ => kF'); (rename News _ _ _ _ => kN'); (have F' := Fr.keeps kF' kc); (have N' := news_fresh kF' kN' kc fc oc); clear kF' kN'; revert kc fc oc F' N'; intro _ _ _ _ _; (try dsimp only); (try k_fold)))
  k_with "m vars" => first | assumption | exact VarsAt.mono (Fr.keep (by with_reducible assumption)) (by assumption) | exact VarsAt.mono (by with_reducible assumption) (by assumption)
  k_with "call ref" => (k_here; (with_reducible show wpAny _ _ (call (Value.ref 49) _) _ _ _); k_dflt (refine' next_spec' (by assumption) (by k_extra "m stays") (by k_extra "m calm") (by k_extra "m desk") (by k_extra "m br") (by assumption) (by k_extra "m vars") (by assumption) (by assumption) (by assumption) (by assumption) (by assumption) ?_; intro _ _ _ _; k_extra "m kept"))
  k_with "call ref" => (k_here; (with_reducible show wpAny _ _ (call (Value.ref 63) _) _ _ _); k_dflt (refine' choose_spec (by assumption) (by k_extra "m stays") (by k_extra "m calm") (by k_extra "m desk") (by k_extra "m br") (by assumption) (by k_extra "m vars") (by assumption) (by assumption) (by assumption) (by assumption) ?_; intro _ _ _ _ _; k_extra "m kept"))
  k_with "m unit" => first | exact Calm.u1 (by with_reducible assumption)
  k_with "m prs0" => first | exact Prs.mono (Fr.keep (by with_reducible assumption)) (by with_reducible assumption) | with_reducible assumption | exact prs_nil | k_extra "m prs"
  k_with "compareOp Eq ref ref" => (k_here; k_dflt (refine' eq_doms (by k_extra "m tup") (by k_extra "m prs0") (by k_extra "m tup") (by k_extra "m prs0") (by k_extra "m unit") ?_; k_whole))
  k_with "compareOp NotEq ref ref" => (k_here; k_dflt first | (apply ne_nil; (case hy => k_extra "m list"); (case hx => k_extra "m list"); (case hu => exact Calm.u (by with_reducible assumption)); k_whole) | (apply ne_doms; (case hx => k_extra "m tup"); (case px => k_extra "m prs0"); (case hy => k_extra "m tup"); (case py => k_extra "m prs0"); (case hu => k_extra "m unit"); k_whole))
  k_with "call builtin:list.append" => (k_here; (with_reducible show wpAny _ _ (call (Value.builtin _) [Value.ref _, _]) _ _ _); k_dflt (refine' append_L (by k_asm) (by k_asm) (by k_upd) (by first | assumption | omega | (simp only [List.length_append, List.length_cons, List.length_nil]; omega)) ?_; k_whole); intro _ _ N'; (try dsimp only [List.nil_append, List.cons_append] at N'); revert N'; intro _; (try k_sweep))
  k_with "m enter" => (k_extra "m around"; k_extra "m fill"; refine wpAny_call ?_; k_dflt (refine' enter _ (by assumption) (by assumption) (by assumption) (by assumption) (by k_is) (by k_is) (by exact BindsTo.of_eq rfl) (by exact locs rfl) ?_ (by exact rfl) (by exact rfl) (by exact rfl) (by decide); k_whole; intro _ _ _ _ _ _ _ _ _ _ _ _ _ _; (try dsimp only); (try k_fold)))
  k_with "setItem ref int" => (k_here; k_dflt (apply set_L; (case F => k_asm); (case N => k_asm); (case U => k_upd); (case hx => assumption); (case hz => assumption); k_whole); intro _ _ N'; (try dsimp only [List.nil_append, List.cons_append] at N'); revert N'; intro _)
  k_with "setItem ref int" => (k_here; k_dflt (refine' setD_L (by k_asm) (by k_asm) (by k_updF) (by assumption) (by assumption) ?_; k_whole); intro _ _ _ _ _ N'; (try dsimp only [List.nil_append, List.cons_append] at N'); revert N'; intro _)
  k_with "call builtin:list.pop" => (k_here; (with_reducible show wpAny _ _ (call (Value.builtin _) [Value.ref _]) _ _ _); k_dflt (apply pop_L; (case F => k_asm); (case N => k_asm); (case U => k_upd); (case hz => assumption); k_whole); intro _ _ N'; (try dsimp only [List.nil_append, List.cons_append] at N'); revert N'; intro _)
  k_with "m cls" => first | (simp only [ne_eq, Value.type.injEq, reduceCtorEq, not_false_eq_true]; done) | (simp; done) | ((rename Obj.cls _ = Value.type "dict" => hq'); rw [hq']; simp; done)
  k_with "k ne" => first | (refine neN ?_; (try dsimp only); first | k_extra "m ne0" | omega) | exact news_ne (by with_reducible assumption) (by k_mem) (by k_mem) (by k_extra "m cls")
  k_with "k all" => exact allLt_ne (by assumption)
  k_with "m own" => (intro _ _; k_ownIn)
  k_with "m tup" => first | assumption | exact fr_tup (by with_reducible assumption) (by with_reducible assumption) | exact News.isTup (by with_reducible assumption) (by news_mem) | exact InPn.tup (by with_reducible assumption) (by with_reducible assumption) (by with_reducible assumption) (by k_extra "m own")
  k_with "m prs0" => first | exact Prs.mono (Fr.keep (by with_reducible assumption)) (by with_reducible assumption) | with_reducible assumption | exact prs_nil | exact InPn.prs (by with_reducible assumption) (by with_reducible assumption) (by with_reducible assumption) (by k_extra "m own") | k_extra "m prs"
  k_with "m off" => (repeat' first | exact List.forall_mem_nil _ | (refine in_cons ?_ ?_; k_ne))
  k_with "m offall" => (repeat' first | exact List.forall_mem_nil _ | (refine in_cons ?_ ?_; k_all))
  k_with "k inst" => exact instAt_mixed (by assumption) (by assumption) (by assumption) (by k_mem)
  k_with "m full" => first | assumption | exact FullTups.mono (Fr.keep (by with_reducible assumption)) (by assumption)
  k_with "compareOp In ref ref" => (k_here; k_dflt (refine' in_firsts (by k_extra "m list") (by k_extra "m full") (by k_extra "m tup") (by k_extra "m unit") ?_; k_whole))
  k_with "m slice" => first | (apply slice_upto; (case F => k_asm); (case N => k_asm); (case hl => k_extra "m list"); (case hz => first | assumption | omega); (case hk => assumption); (case hj => assumption); (case hs => with_unfolding_all rfl); k_whole) | (apply slice_from; (case F => k_asm); (case N => k_asm); (case hl => k_extra "m list"); (case hz => first | assumption | omega); (case hk => assumption); (case hj => assumption); (case hs => with_unfolding_all rfl); k_whole)
  k_with "subscriptTail Attribute Slice ref ref" => (k_here; k_dflt (k_extra "m slice"); intro _ _ _ _ l'; (k_lt l'); revert l'; intro _; (try k_sweep))
  k_with "subscriptTail Name Slice ref ref" => (k_here; k_dflt (k_extra "m slice"); intro _ _ _ _ l'; (k_lt l'); revert l'; intro _; (try k_sweep))
  k_with "exec While Compare" => (k_here; k_dflt (refine' while_src (by with_reducible assumption) (by passes_own) ?_))
  k_with "call ref" => (k_here; (with_reducible show wpAny _ _ (call (Value.ref 309) _) _ _ _); k_dflt (refine' far_spec (by assumption) (by k_extra "m stays") (by k_extra "m calm") ?_; intro _ _ _ _; k_extra "m kept"))
  k_with "call ref" => (k_here; (with_reducible show wpAny _ _ (call (Value.ref 328) _) _ _ _); k_dflt (refine' many_spec (by assumption) (by k_extra "m stays") (by k_extra "m calm") (by k_extra "m list") (by k_extra "m prs") (by assumption) ?_; intro _ _ _ _; k_extra "m kept"))
  k_with "call ref" => (k_here; (with_reducible show wpAny _ _ (call (Value.ref 335) _) _ _ _); k_dflt (refine' half_spec (by assumption) (by k_extra "m stays") (by k_extra "m calm") (by k_extra "m list") (by k_extra "m prs") (by assumption) ?_; intro _ _ _; k_extra "m kept"))
  k_with "call ref" => (k_here; (with_reducible show wpAny _ _ (call (Value.ref 316) _) _ _ _); (rename Fr _ _ _ _ => kF'); (rename News _ _ _ _ => kN'); k_dflt (apply draw_spec; (case C => assumption); (case hB => k_extra "m stays"); (case hA => k_extra "m calm"); (case hm => exact hm_one kN' (by k_mem) (by with_reducible assumption)); (case hbo => assumption); (case hnm => assumption); (case hcl => k_extra "m list"); (case hcb => assumption); (case hci => assumption); (case hcz => assumption); (case hmany => first | assumption | omega | (simp only [Int.reduceToNat]; omega) | decide); (case hnb => omega); intro hc tkc oc rc tc kc ec bc r0c r1c; (try simp only [Int.reduceToNat] at r1c); (rename Obj.cls _ = Value.type "dict" => hold'); (have FN' := fr_upd kF' kN' (by k_updF) kc ec); (obtain ⟨F', N'⟩ := FN'); clear kF' kN' hold'; (have dcls' := BagIs.cls bc); (try dsimp only at N'); revert hc tkc oc rc tc kc ec bc r0c r1c F' N' dcls'; intro _ _ _ _ _ _ _ _ _ _ _ _ _; (try dsimp only); (try k_fold)))
  k_with "m ints" => (repeat' (first | exact List.forall_mem_nil _ | (refine (in_cons (⟨_, _, rfl, by (try dsimp only); (try simp only [Int.reduceToNat]); omega⟩) (?_)))))
  k_with "subscriptTail" => (k_here; (with_reducible show wpAny _ _ (subscriptTail _ _ (Value.ref _) (Value.int _ _)) _ _ _); first | (apply tup_pick (fun n => 0 ≤ n ∧ n ≤ 10 ^ 15); (case ht => exact News.isTup (by with_reducible assumption) (by k_mem)); (case h0 => assumption); (case h1 => (simp only [List.length_cons, List.length_nil]; omega)); (case hz => (simp only [List.length_cons, List.length_nil]; omega)); (case hall => k_extra "m ints"); k_whole; intro _ _ px; (have px1 := px.1); (have px2 := px.2); clear px; revert px1 px2; intro _ _) | (apply tup_pick (fun n => -(10 ^ 30) ≤ n ∧ n ≤ 10 ^ 30); (case ht => exact News.isTup (by with_reducible assumption) (by k_mem)); (case h0 => assumption); (case h1 => (simp only [List.length_cons, List.length_nil]; omega)); (case hz => (simp only [List.length_cons, List.length_nil]; omega)); (case hall => k_extra "m ints"); k_whole; intro _ _ px; (have px1 := px.1); (have px2 := px.2); clear px; revert px1 px2; intro _ _))
  k_with "newTuple" => (k_here; k_dflt (refine' newTuple_L (by k_asm) (by k_asm) ?_ (by size_fits); k_whole); intro _ _ _ _ l1; (k_lt l1); revert l1; intro _; (try k_sweep))
  k_with "m om" => ((try simp only [Int.reduceToNat]); omega)
  k_with "m for enum" => (k_here; k_dflt (refine' for_enumF (by with_reducible assumption) (by with_unfolding_all rfl) ?_ (by rfl) (by with_unfolding_all rfl) (by with_unfolding_all rfl) (by rfl) (by (intro _; rfl)); k_whole))
  k_with "call type:enumerate" => (k_here; k_dflt (refine' enum_call (by k_asm) (by k_asm) (by k_extra "m list") ?_; k_whole; intro _ _ _ _ _ _ _ _ _ _ _))
  k_with "m lots" => first | assumption | exact LotsAt.mono (Fr.keep (by with_reducible assumption)) (by assumption)
  k_with "call ref" => (k_here; (with_reducible show wpAny _ _ (call (Value.ref 347) _) _ _ _); k_dflt (refine' wanted_spec (by assumption) (by k_extra "m stays") (by k_extra "m calm") (by k_extra "m list") (by k_extra "m lots") (by k_extra "m list") (by assumption) (by assumption) (by assumption) (by k_extra "m list") (by assumption) (by assumption) (by assumption) ?_; intro _ _ _ _ _; k_extra "m kept"))
  k_with "call ref" => (k_here; (with_reducible show wpAny _ _ (call (Value.ref 354) _) _ _ _); k_dflt (refine' place_spec (by assumption) (by k_extra "m stays") (by k_extra "m calm") (by k_extra "m desk") (by k_extra "m br") (by assumption) (by k_extra "m vars") (by assumption) (by assumption) (by assumption) (by assumption) (by k_extra "m list") (by k_extra "m lots") (by assumption) (by assumption) ?_; intro _ _ _; k_extra "m kept"))
  k_with "m perm" => (repeat' first | exact List.forall_mem_nil _ | (refine in_cons ?_ ?_; k_extra "m mem") | (intro _ _; k_ownIn))
  trivial
section
theorem off91 : True := by
  w_top off
  trivial
/-! ## a list of draws -/
inductive CompDrawSrc (w : World) (A : Around) (env : Env) (elt : Expr) (scope : Scope) (cl : List (PySem.Str × Addr)) (b ca : Addr) (lim : Int) (Q : Value → Shared → Prop) (xv : Value) (s₁ : Shared) : Prop
  | mk (r : Addr) (k n0 : Nat) (t u v : Tok) (ob : Obj) (a0 : xv = .ref r) (a1 : IsRange s₁.heap r 0 (k : Int) 1 t u v) (a2 : k ≤ 1000) (a3 : s₁.heap.get? b = some ob) (a4 : BagIs w ob ca n0) (a5 : ∀ (C : Nat) h tk m E' n ob, n ≤ n0 + k → StaysBut [b] s₁.heap h → h.get? b = some ob → BagIs w ob ca n → h.Ns C m → s₁.heap.get? C = none → wpAny (model PR w) A (eval elt (compEnvC scope cl C env)) (fun y s' => ∃ h' tk' ob' d t, y = .int d t ∧ s' = { s₁ with heap := h', toks := tk' } ∧ 0 ≤ d ∧ d < lim ∧ StaysBut [b] h h' ∧ h'.get? b = some ob' ∧ BagIs w ob' ca (n + 1)) E' { s₁ with heap := h, toks := tk }) (a6 : ∀ (D : Nat) h' tk ys ds c ob', s₁.heap.get? D = none → h'.get? D = some (lstObj ys c) → IntsAre ys ds → ds.length = k → (∀ d ∈ ds, 0 ≤ d ∧ d < lim) → StaysBut [b] s₁.heap h' → h'.get? b = some ob' → BagIs w ob' ca (n0 + k) → Q (.ref D) { s₁ with heap := h', toks := tk }) : CompDrawSrc w A env elt scope cl b ca lim Q xv s₁
theorem ints_snoc : ∀ {vs : List Value} {ns : List Int} {d : Int} {t : Tok}, IntsAre vs ns → IntsAre (vs ++ [.int d t]) (ns ++ [d])
  | [], _, _, _, h => by cases h; exact .cons _ _ .nil
  | _ :: _, _, _, _, h => by
    cases h with
    | cons n u h' => exact .cons n u (ints_snoc h')
section
variable {w : World} {A : Around} {E : Value → Shared → Prop} {s : Shared}
theorem comp_draws {env : Env} {elt iter : Expr} {x : PySem.Str} {px : Pos} {scope : Scope} {cl : List (PySem.Str × Addr)} {pos : Pos} {Q : Value → Shared → Prop} {b ca : Addr} {lim : Int} (hh : A.handled = none)
    (h : wpAny (model PR w) A (eval iter env) (fun xv s₁ => CompDrawSrc w A env elt scope cl b ca lim Q xv s₁) E s)
    (hclos : closureFor scope env = pure cl := by with_unfolding_all rfl) (hcell : ∀ y ∈ scope.names, y.2 ≠ .cell := by decide) (hkind : scope.kind = .function := by rfl)
    (hnames : ∀ y ∈ scope.names, y.2 = .local → scope.names.lookup y.1 = some .local := by decide) (hx : scope.names.lookup x = some .local := by rfl)
    (hs : ∀ x, foldedSetIterable iter env x = pure x := by intro _; rfl) :
    wpAny (model PR w) A (eval (.ListComp elt [⟨.Name x px, iter, [], 0⟩] scope pos) env) Q E s := by
  refine comp_gen hclos hcell hkind hnames (wpAny_mono h (fun xv s₁ h₁ => ?_) fun _ _ e => e) hs
  obtain ⟨r, k, n0, t, u, v, ob, rfl, hr, hk, hob, hbag, hitem, hQ⟩ := h₁
  have hrs : Builtin.Range.rangeSize 0 (k : Int) 1 = (k : Int) := by
    unfold Builtin.Range.rangeSize
    by_cases c : (0 : Int) < k
    · simp [c]; omega
    · have : k = 0 := by omega
      subst this; simp
  have hsm : Builtin.Range.small 0 (k : Int) 1 = true := by
    unfold Builtin.Range.small
    have hf : ∀ j : Nat, j ≤ 1000 → Builtin.Range.rangeFitsLong (j : Int) = true := fun j hj => by
      unfold Builtin.Range.rangeFitsLong; simp; omega
    have h0 := hf 0 (by omega)
    have h1 := hf 1 (by omega)
    have hn' := hf k hk
    simp only [hrs]
    simp only [Int.natCast_zero, Int.natCast_one, Int.ofNat_eq_natCast] at h0 h1
    simp [h0, h1, hn']
  refine wpAny_pyIter_range hr hsm ?_
  rw [hrs]
  have hbl : @LT.lt Nat _ b s₁.heap.objs.size := Heap.lt_size hob
  have hget : ∀ (b : Nat) o, s₁.heap.get? b = some o → @LT.lt Nat _ b s₁.heap.objs.size := fun b o e => Heap.lt_size e
  have hz : (s₁.heap.push { cls := .type "range_iterator", data := .fields #[rawInt 0, rawInt (k : Int), rawInt 1] }).objs.size = s₁.heap.objs.size + 1 := Heap.size_push _ _
  have up : Stays s₁.heap (s₁.heap.push { cls := .type "range_iterator", data := .fields #[rawInt 0, rawInt (k : Int), rawInt 1] }) := fun b o e => Heap.get?_push_of_some _ e
  have gI := Heap.get?_push_size s₁.heap (o := { cls := .type "range_iterator", data := .fields #[rawInt 0, rawInt (k : Int), rawInt 1] }) rfl
  generalize hP : s₁.heap.push { cls := .type "range_iterator", data := .fields #[rawInt 0, rawInt (k : Int), rawInt 1] } = P at *
  have W := Walks.range (prog := PR) (w := w) hh s₁.heap.objs.size 0 1 k
  refine ⟨s₁.heap.objs.size, _, _, _, _, [b], fun i ys h => (∃ ob, h.get? b = some ob ∧ BagIs w ob ca (n0 + i)) ∧ ∃ ds, IntsAre ys ds ∧ ds.length = i ∧ ∀ d ∈ ds, 0 ≤ d ∧ d < lim, s₁.heap, rfl, W, Nat.le_trans hk (le_sizeLine (Nat.le_refl _)), ?_, ?_, ?_, ?_, ⟨⟨ob, hob, hbag⟩, [], .nil, rfl, by intro _ q; cases q⟩, up, fresh_of_size (Nat.le_refl _), ?_, ?_⟩
  · show IsRangeIter _ _ _ _ _
    simpa using gI
  · intro c hc
    rw [List.mem_singleton.mp hc]
    show @LT.lt Nat _ s₁.heap.objs.size P.objs.size
    rw [hz]; exact Nat.lt_succ_self _
  · intro c hc
    rw [List.mem_singleton.mp hc]
    refine ⟨fun q => ?_, ?_⟩
    · have q' : @Eq Nat b s₁.heap.objs.size := List.mem_singleton.mp q
      omega
    · show @LT.lt Nat _ b P.objs.size
      rw [hz]; omega
  · rintro i ys h h' kk ⟨⟨ob, e, bg⟩, ds, a1, a2, a3⟩
    exact ⟨⟨ob, kk _ _ e, bg⟩, ds, a1, a2, a3⟩
  · rintro i v C D ys h tk m E' hi ⟨ti, rfl⟩ hC hD hCD hst' hn hacc hkk ⟨⟨ob1, hob1, hbag1⟩, ds, a1, a2, a3⟩
    have hC' : s₁.heap.objs.size + 1 ≤ C := by have : P.objs.size ≤ C := hC; omega
    have hD' : s₁.heap.objs.size + 1 ≤ D := by have : P.objs.size ≤ D := hD; omega
    have hob2 := of_hideAll _ hob1
    have hkb : StaysBut [b] s₁.heap h := fun c o hb e => hkk c o (fun q => by
      rcases List.mem_cons.mp q with q | q
      · have q1 : @Eq Nat c s₁.heap.objs.size := q
        have := hget _ _ e; omega
      · exact hb q) (up c o e)
    have hcb : @Ne Nat C b := by omega
    refine wpAny_pure ?_
    have hxx : (compEnvC scope cl C env).kindOf x = some .local := lookup_relabel_local hx
    refine wpAny_assign_Name (wpAny_storeName_local (env := compEnvC scope cl C env) hxx hn (fun h₅ hn₅ hs₅ => ?_) (by simp [compEnvC, relabel, hkind]))
    have hk5 : ∀ (c : Nat) o, c ≠ C → h.get? c = some o → h₅.get? c = some o := fun c o hc e => hs₅.extBut c o hc e
    refine wpAny_tests_nil ?_
    rw [if_pos rfl]
    have hkb5 : StaysBut [b] s₁.heap h₅ := fun c o hb e => hk5 c o (fun q => by have := hget _ _ e; omega) (hkb c o hb e)
    refine wpAny_mono (hitem C h₅ _ _ _ (n0 + i) ob1 (by omega) hkb5 (hk5 b _ (Ne.symm hcb) hob2) hbag1 hn₅ (fresh_of_size (by omega))) (fun y s' hy => ?_) fun _ _ e => e
    obtain ⟨h', tk', ob', d, td, rfl, rfl, d0, d1, k', e', bag'⟩ := hy
    have hn' := hn₅.at' (h' := h') fun o e => k' C o (by simpa using hcb) e
    refine ⟨h', tk', _, rfl, hn', fun c o hc e => k' c o (fun q => hc (.tail _ q)) (hk5 c o (fun q => hc (q ▸ .head _)) e), ⟨ob', hideAll_get _ e' ?_, bag'⟩, ds ++ [d], ints_snoc a1, by simp [a2], fun z hz => ?_⟩
    · intro q
      rcases List.mem_cons.mp q with q | q
      · have q1 : @Eq Nat b s₁.heap.objs.size := q; omega
      rcases List.mem_cons.mp q with q | q
      · have q1 : @Eq Nat b C := q; omega
      · have q1 : @Eq Nat b D := List.mem_singleton.mp q; omega
    · rcases List.mem_append.mp hz with hz | hz
      · exact a3 z hz
      · cases List.mem_singleton.mp hz; exact ⟨d0, d1⟩
  · rintro D h' tk ys hD hacc hys ⟨⟨ob1, hob1, hbag1⟩, ds, a1, a2, a3⟩ hkk
    obtain ⟨c, hc⟩ := hacc
    refine hQ D h' tk ys ds c ob1 (fresh_of_size (by have : P.objs.size ≤ D := hD; omega)) hc a1 a2 a3 (fun c o hb e => hkk c o (fun q => ?_) (up c o e)) hob1 hbag1
    rcases List.mem_cons.mp q with q | q
    · have q1 : @Eq Nat c s₁.heap.objs.size := q
      have := hget _ _ e; omega
    · exact hb q
end

end
section
theorem off92 : True := by
  w_top off
  trivial
/-! ## the law's frame -/
section
variable {prog : Program} {w : World} {A : Around} {E : Value → Shared → Prop} {s : Shared} {g : Heap} {L : Addr} {env : Env} {target iter : Expr} {body : List Stmt} {pos : Pos} {Q : Flow → Shared → Prop} {m₁ : PySem.Str → Option Value}
/-- over a range from nought -/
inductive ForRangeK (prog : Program) (w : World) (A : Around) (g : Heap) (L : Addr) (env : Env) (x : PySem.Str) (body : List Stmt) (Q : Flow → Shared → Prop) (xv : Value) (s₁ : Shared) : Prop
  | mk (r : Addr) (n : Nat) (t u v : Tok) (J : Nat → (PySem.Str → Option Value) → List (Addr × Obj) → Prop) (m : PySem.Str → Option Value) (news : List (Addr × Obj)) (a0 : xv = .ref r) (a1 : IsRange s₁.heap r 0 (n : Int) 1 t u v) (a2 : n ≤ 1000) (a3 : Fr g L s₁.heap m) (a4 : News g L s₁.heap news) (a5 : J 0 m news) (a6 : ∀ (i : Nat) h tk m (I : Nat) oI news ti E', i < n → J i m news → Fr g L h (fun z => if z = x then some (.int (i : Int) ti) else m z) → News g L h ((I, oI) :: news) → (∀ p ∈ news, @Ne Nat p.1 I) → oI.cls ≠ .type "tuple" → wpAny (model prog w) A (execs body env) (ForPost g L [(I, oI)] (J (i + 1)) s₁ Q) E' { s₁ with heap := h, toks := tk }) (a7 : ∀ h tk m news, J n m news → Fr g L h m → News g L h news → Q .next { s₁ with heap := h, toks := tk }) : ForRangeK prog w A g L env x body Q xv s₁
theorem for_rangeK {x : PySem.Str} {px : Pos} (hh : A.handled = none)
    (h : wpAny (model prog w) A (eval iter env) (fun xv s₁ => ForRangeK prog w A g L env x body Q xv s₁) E s)
    (hL : env.locals = L := by rfl) (hx : env.kindOf x = some .local := by rfl)
    (hp : (env.scope.kind == .class || (env.scope.kind == .module && env.locals != env.globals)) = false := by rfl)
    (hs : ∀ x, foldedSetIterable iter env x = pure x := by intro _; rfl) : wpAny (model prog w) A (exec (.For (.Name x px) iter body [] pos) env) Q E s := by
  subst hL
  refine for_core (g := g) (L := env.locals) (wpAny_mono h (fun xv s₁ h₁ => ?_) fun _ _ e => e) hs
  obtain ⟨r, n, t, u, v, J, m, news, rfl, hr, hn, F, N, hJ, turn, done⟩ := h₁
  have hrs : Builtin.Range.rangeSize 0 (n : Int) 1 = (n : Int) := by
    unfold Builtin.Range.rangeSize
    by_cases c : (0 : Int) < n
    · simp [c]; omega
    · have : n = 0 := by omega
      subst this; simp
  have hsm : Builtin.Range.small 0 (n : Int) 1 = true := by
    unfold Builtin.Range.small
    have hf : ∀ j : Nat, j ≤ 1000 → Builtin.Range.rangeFitsLong (j : Int) = true := fun j hj => by
      unfold Builtin.Range.rangeFitsLong; simp; omega
    have h0 := hf 0 (by omega)
    have h1 := hf 1 (by omega)
    have hn' := hf n hn
    simp only [hrs]
    simp only [Int.natCast_zero, Int.natCast_one, Int.ofNat_eq_natCast] at h0 h1
    simp [h0, h1, hn']
  refine wpAny_pyIter_range hr hsm ?_
  rw [hrs]
  obtain ⟨F', N', hne⟩ := Fr.push1 F N ({ cls := .type "range_iterator", data := .fields #[rawInt 0, rawInt (n : Int), rawInt 1] }) rfl
  refine ⟨s₁.heap.objs.size, _, _, _, _, _, J, m, news, rfl, Walks.range hh _ 0 1 n, ?_, F', N', hne, hJ, ?_, ?_, ?_, ?_⟩
  · show IsRangeIter _ _ _ _ _
    simpa using Heap.get?_push_size s₁.heap (o := { cls := .type "range_iterator", data := .fields #[rawInt 0, rawInt (n : Int), rawInt 1] }) rfl
  · intro b hb; exact .inl (List.mem_singleton.mp hb)
  · intro i h x; exact ⟨_, x⟩
  · rintro i v h tk m oI news E' hin ⟨ti, rfl⟩ hJ hst' F₁ N₁ hne
    have e : (0 : Int) + (i : Nat) * 1 = (i : Int) := by omega
    rw [e]
    have hq : wpAny (model prog w) A (letOwnedTupleGo (.Name x px) (.ref s₁.heap.objs.size) (.int (i : Int) ti)) (fun _ sa => wpAny (model prog w) A (assign (.Name x px) env (.int (i : Int) ti)) (fun _ sb => wpAny (model prog w) A (execs body env)
        (ForPost g env.locals [(s₁.heap.objs.size, oI)] (J (i + 1)) s₁ Q) E' sb) E' sa) E' { s₁ with heap := h, toks := tk } := by
      refine wpAny_pure ?_
      refine wpAny_assign_Name (wpAny_storeName_local hx F₁.ns (fun h₅ hn₅ hs₅ => ?_) hp)
      have hk5 : ∀ (c : Nat) o, c ≠ env.locals → h.get? c = some o → h₅.get? c = some o := fun c o hc e => hs₅.extBut c o hc e
      exact turn i h₅ _ m _ oI news ti _ hin hJ (fr_ns F₁ hn₅ hk5) (news_ns N₁ hk5) hne (by
        have y := (N₁ _ (.head _)).1
        have z : h.get? s₁.heap.objs.size = _ := hst'
        rw [z] at y; cases y; simp)
    exact hq
  · intro h tk m news hJ F N
    exact done h tk m news hJ F N

theorem for_rangeKF {x : PySem.Str} {px : Pos} (_F₁ : Fr g L s.heap m₁) (hh : A.handled = none)
    (h : wpAny (model prog w) A (eval iter env) (fun xv s₁ => ForRangeK prog w A g L env x body Q xv s₁) E s)
    (hL : env.locals = L) (hx : env.kindOf x = some .local)
    (hp : (env.scope.kind == .class || (env.scope.kind == .module && env.locals != env.globals)) = false)
    (hs : ∀ x, foldedSetIterable iter env x = pure x) : wpAny (model prog w) A (exec (.For (.Name x px) iter body [] pos) env) Q E s := for_rangeK hh h hL hx hp hs
end
section
variable {prog : Program} {w : World} {A : Around} {E : Value → Shared → Prop} {s : Shared} {h₀ : Heap} {L : Addr} {m : PySem.Str → Option Value} {news : List (Addr × Obj)}
theorem slice_take {value slice : PySem.Expr} {l : Addr} {vs : List Value} {k : Int} {t : Tok} {j : Nat} {Q : Value → Shared → Prop} (F : Fr h₀ L s.heap m) (N : News h₀ L s.heap news) (hl : s.heap.IsList l vs.toArray) (hk : k = (j : Int)) (hz : vs.length ≤ 1000)
    (h : ∀ D h', Fr h₀ L h' m → News h₀ L h' ((D, lstObj (vs.take j) 0) :: news) → (∀ p ∈ news, p.1 < D) → Q (.ref D) { s with heap := h' })
    (hs : subscripted slice false (.ref l) (.ref s.heap.objs.size) = operate [.ref s.heap.objs.size, .ref l] (getItem (.ref l) (.ref s.heap.objs.size)) := by with_unfolding_all rfl) :
    wpAny (model prog w) A (subscriptTail value slice (.ref l) (.ref s.heap.objs.size)) Q E { s with heap := s.heap.push { cls := .type "slice", data := .fields #[.none, .int k t, .none] } } := by
  subst hk
  refine kba_turn (value' := PySem.Expr.Name (PySem.Str.ofString "_") ⟨0, 0, 0, 0⟩) (fun _ => rfl) ?_
  refine PyProof.Rows.slice_list F N hl .none (.int _ _) (fun h' F' N' => ?_) hs (fun _ => rfl) (by rw [List.size_toArray]; exact le_sizeLine hz)
  rw [slicePick_upto' vs.toArray j] at N'
  exact h _ _ F' N' fun p hp => Nat.lt_succ_of_lt (Heap.lt_size (N p hp).1)
theorem list_of {l : Addr} {vs : List Value} {Q : Value → Shared → Prop} (F : Fr h₀ L s.heap m) (N : News h₀ L s.heap news) (hl : s.heap.IsList l vs.toArray) (hz : vs.length ≤ 1000)
    (h : ∀ D c h', Fr h₀ L h' m → News h₀ L h' ((D, lstObj vs c) :: news) → (∀ q ∈ news, q.1 < D) → Q (.ref D) { s with heap := h' }) : wpAny (model prog w) A (call (.type "list") [.ref l]) Q E s :=
  list_copyK F N hl h (by rw [List.size_toArray]; exact le_sizeLine hz)
end
theorem updF_mem {d : Addr} {o : Obj} {news : List (Addr × Obj)} {gg : Obj → List (Addr × Obj)} (U : UpdF d o news gg) : (d, o) ∈ news ∧ ∀ o' p, p ∈ gg o' → p = (d, o') ∨ (p ∈ news ∧ p.1 ≠ d) := by
  obtain ⟨pre, post, rfl, hg, h1, h2⟩ := U.split
  refine ⟨List.mem_append_right _ (.head _), fun o' p hp => ?_⟩
  rw [hg] at hp
  rcases List.mem_append.mp hp with hp | hp
  · exact .inr ⟨List.mem_append_left _ hp, h1 p hp⟩
  · rcases List.mem_cons.mp hp with rfl | hp
    · exact .inl rfl
    · exact .inr ⟨List.mem_append_right _ (.tail _ hp), h2 p hp⟩
section
variable {g h h' : Heap} {L : Addr} {m : PySem.Str → Option Value} {news : List (Addr × Obj)} {S : List Addr}
theorem fr_but (F : Fr g L h m) (k : StaysBut S h h') (n : ∀ b ∈ S, b ≠ L ∧ g.get? b = none) : Fr g L h' m :=
  ⟨F.ns.at' fun o e => k L o (fun q => (n _ q).1 rfl) e, fun b o e => k b o (fun q => by rw [(n _ q).2] at e; cases e) (F.keep b o e), F.above⟩
theorem fr_upd2 {d1 d2 : Addr} {o1 o2 o1' o2' : Obj} {g1 g2 : Obj → List (Addr × Obj)} (F : Fr g L h m) (N : News g L h news) (U1 : UpdF d1 o1 news g1) (U2 : UpdF d2 o2 (g1 o1') g2) (k : StaysBut [d1, d2] h h') (e1 : h'.get? d1 = some o1') (e2 : h'.get? d2 = some o2') (hn : d1 ≠ d2) :
    Fr g L h' m ∧ News g L h' (g2 o2') := by
  have M1 := updF_mem U1
  have M2 := updF_mem U2
  have y1 := (N _ M1.1).2
  have y2 : d2 ≠ L ∧ g.get? d2 = none := by
    rcases M1.2 _ _ M2.1 with q | q
    · exact absurd (congrArg Prod.fst q).symm hn
    · exact (N _ q.1).2
  refine ⟨fr_but F k fun b hb => ?_, fun p hp => ?_⟩
  · rcases List.mem_cons.mp hb with rfl | hb
    · exact y1
    · cases List.mem_singleton.mp hb; exact y2
  · rcases M2.2 _ _ hp with rfl | ⟨hp, n2⟩
    · exact ⟨e2, y2⟩
    · rcases M1.2 _ _ hp with rfl | ⟨hp, n1⟩
      · exact ⟨e1, y1⟩
      · exact ⟨k _ _ (by simp only [List.mem_cons, List.not_mem_nil, or_false, not_or]; exact ⟨n1, n2⟩) (N p hp).1, (N p hp).2⟩
theorem fr_upd3 {d1 d2 d3 : Addr} {o1 o2 o3 o1' o2' o3' : Obj} {g1 g2 g3 : Obj → List (Addr × Obj)} (F : Fr g L h m) (N : News g L h news) (U1 : UpdF d1 o1 news g1) (U2 : UpdF d2 o2 (g1 o1') g2) (U3 : UpdF d3 o3 (g2 o2') g3) (k : StaysBut [d1, d2, d3] h h')
    (e1 : h'.get? d1 = some o1') (e2 : h'.get? d2 = some o2') (e3 : h'.get? d3 = some o3') (n12 : d1 ≠ d2) (n13 : d1 ≠ d3) (n23 : d2 ≠ d3) : Fr g L h' m ∧ News g L h' (g3 o3') := by
  have M1 := updF_mem U1
  have M2 := updF_mem U2
  have M3 := updF_mem U3
  have y1 := (N _ M1.1).2
  have y2 : d2 ≠ L ∧ g.get? d2 = none := by
    rcases M1.2 _ _ M2.1 with q | q
    · exact absurd (congrArg Prod.fst q).symm n12
    · exact (N _ q.1).2
  have y3 : d3 ≠ L ∧ g.get? d3 = none := by
    rcases M2.2 _ _ M3.1 with q | q
    · exact absurd (congrArg Prod.fst q).symm n23
    · rcases M1.2 _ _ q.1 with q | q
      · exact absurd (congrArg Prod.fst q).symm n13
      · exact (N _ q.1).2
  refine ⟨fr_but F k fun b hb => ?_, fun p hp => ?_⟩
  · rcases List.mem_cons.mp hb with rfl | hb
    · exact y1
    · rcases List.mem_cons.mp hb with rfl | hb
      · exact y2
      · cases List.mem_singleton.mp hb; exact y3
  · rcases M3.2 _ _ hp with rfl | ⟨hp, n3⟩
    · exact ⟨e3, y3⟩
    · rcases M2.2 _ _ hp with rfl | ⟨hp, n2⟩
      · exact ⟨e2, y2⟩
      · rcases M1.2 _ _ hp with rfl | ⟨hp, n1⟩
        · exact ⟨e1, y1⟩
        · exact ⟨k _ _ (by simp only [List.mem_cons, List.not_mem_nil, or_false, not_or]; exact ⟨n1, n2, n3⟩) (N p hp).1, (N p hp).2⟩
theorem fresh_of (F : Fr g L h m) {a : Addr} (e : h.get? a = none) : a ≠ L ∧ g.get? a = none := by
  refine ⟨fun q => ?_, ?_⟩
  · obtain ⟨oL, _, _, hL, _⟩ := F.ns
    rw [q, hL] at e; cases e
  · cases q : g.get? a with
    | none => rfl
    | some o => have := F.keep _ _ q; rw [e] at this; cases this
theorem fresh_off {a : Addr} (e : h.get? a = none) (hS : NotTup h S) : ∀ b ∈ S, a ≠ b := fun b hb q => by
  obtain ⟨o, ho, _⟩ := hS b hb
  rw [← q, e] at ho; cases ho
end
theorem IntDictIs.cls {o : Obj} {n : Nat} (x : IntDictIs o n) : o.cls = .type "dict" := x.1


end
theorem rows92 : True := by
  k_with "m list" => first | with_reducible assumption | exact News.isList (by with_reducible assumption) (by k_mem) | exact fr_list (by with_reducible assumption) (by with_reducible assumption)
  k_with "m tup" => first | with_reducible assumption | exact News.isTup (by with_reducible assumption) (by k_mem) | exact fr_tup (by with_reducible assumption) (by with_reducible assumption)
  k_with "subscriptTail Name Slice ref ref" => (k_here; (with_reducible show wpAny _ _ (subscriptTail (PySem.Expr.Name (PySem.Str.ofString "script") _) _ _ _) _ _ _); k_dflt (refine' slice_take (j := 60) (by k_asm) (by k_asm) (by k_extra "m list") (by rfl) (by first | assumption | omega) ?_ (by with_unfolding_all rfl); k_whole); intro _ _ _ _ l'; (k_lt l'); revert l'; intro _; (try k_sweep))
  k_with "call type:list" => (k_here; (with_reducible show wpAny _ _ (call (Value.type _) [Value.ref _]) _ _ _); k_dflt (refine' list_of (by k_asm) (by k_asm) (by k_extra "m list") (by first | assumption | (simp only [List.length_take]; omega)) ?_; k_whole); intro _ _ _ _ _ l'; (k_lt l'); revert l'; intro _; (try k_sweep))
  k_with "exec For Name Call cons nil" => (k_here; k_dflt (refine' for_rangeKF (by with_reducible assumption) (by with_unfolding_all rfl) ?_ (by rfl) (by with_unfolding_all rfl) (by rfl) (by (intro _; rfl)); k_whole))
  k_with "call ref" => (k_here; (with_reducible show wpAny _ _ (call (Value.ref 298) _) _ _ _); k_dflt (refine' store_call (by assumption) (by with_reducible assumption) (by k_asm) (by k_asm) (by k_extra "m calm") ?_; k_whole); intro _ _ _ _ _ _ _ _ _ _ _ _ _ _ _ _ _ _ ls1 _ _ _ _ _ _; (k_lt ls1); revert ls1; intro _; (try dsimp only); (try k_fold))
  k_with "call ref" => (k_here; (with_reducible show wpAny _ _ (call (Value.ref 66) _) _ _ _); k_dflt (refine' brancher_call (by assumption) (by with_reducible assumption) (by k_asm) (by k_asm) (by k_extra "m calm") (by k_mem) (by assumption) ?_; k_whole); intro _ _ _ _ _ _ _ _ _ _ _ _ _ ls1 _ _; (k_lt ls1); revert ls1; intro _; (try dsimp only); (try k_fold))
  k_with "m list" => first | with_reducible assumption | exact News.isList (by with_reducible assumption) (by k_mem) | exact fr_list (by with_reducible assumption) (by with_reducible assumption) | exact LInPn.list (by with_reducible assumption) (by with_reducible assumption) (by with_reducible assumption) (by k_extra "m own") | exact LstPn.list (by with_reducible assumption) (by with_reducible assumption) (by with_reducible assumption) (by k_extra "m own")
  k_with "m nt1" => first | (simp; done) | (simp only [ne_eq]; rw [‹Obj.cls _ = Value.type "dict"›]; simp; done) | assumption | (exact fun q => by (rw [IntDictIs.cls (by assumption)] at q; simp at q))
  k_with "m nt" => (repeat' first | exact NotTupN.nil | refine NotTupN.cons (by k_extra "m mem") (by k_extra "m nt1") ?_)
  trivial
section
theorem off93 : True := by
  w_top off
  trivial
noncomputable def bodyOf : Stmt → List Stmt | .FunctionDef _ _ b _ _ _ _ _ _ _ => b | _ => []
noncomputable def scopeOf : Stmt → Scope | .FunctionDef _ _ _ _ _ _ s _ _ _ => s | _ => default
noncomputable def loopBody : Stmt → List Stmt | .For _ _ b _ _ => b | _ => []
noncomputable def lawStmt : Stmt := (Challenge.pw_pq0372_01.main.body.getLast?).getD default
noncomputable def lawBody : List Stmt := bodyOf lawStmt
noncomputable def lawScope : Scope := scopeOf lawStmt
noncomputable def lawEnv (L fa : Addr) (cd : Value) : Env := envOfC (Str.ofString "law") lawScope L fa cd

end
section
theorem off94 : True := by
  w_top off
  trivial
/-! ## the turn of the law's main loop -/
structure Apart (x y : Nat) : Prop where ne : x ≠ y
theorem Apart.symm {x y : Nat} (h : Apart x y) : Apart y x := ⟨fun e => h.ne e.symm⟩
theorem OwnOff.at {pn : List (Addr × Obj)} {S : List Addr} {b : Addr} (h : OwnOff pn S) (hb : b ∈ S) : ∀ p ∈ pn, p.1 ≠ b := fun p hp => h p hp b hb
structure Fx where
  (b ca a D dl fl tl br Db sa dg rl gl : Addr) (ocl : Obj) (cells : List Value) (cns : List Int) (fv vals dgv : List Value) (o : Nat) (t1 t2 tm to : Tok) (hs' : Nat → Int) (ts' : Nat → Tok) (f : Int → Option Value)
  (row : List Nat) (deg : Nat → Int) (many : Nat) (m0 : PySem.Str → Option Value)
noncomputable def OkD (many n : Nat) (doms : List Rng) : Prop := doms.length = many ∧ ∀ rs ∈ doms, Good rs ∧ rs ≠ [] ∧ rs.length ≤ n
theorem OkD.mono {many n k : Nat} {doms : List Rng} (h : OkD many n doms) (e : n ≤ k) : OkD many k doms := ⟨h.1, fun rs hr => let ⟨a, b, c⟩ := h.2 rs hr; ⟨a, b, Nat.le_trans c e⟩⟩
noncomputable def Hist (g : Heap) (pn : List (Addr × Obj)) (sv : List Value) (es : List (Nat × Value)) (dv : List Value) (hist : List (List Rng)) : Prop :=
  sv.length = hist.length ∧ es.length = hist.length ∧ ∀ (j : Nat) doms, hist[j]? = some doms → (∃ l lv, sv[j]? = some (.ref l) ∧ LstPn g pn l lv ∧ LPn g pn lv doms) ∧ VPn g pn (undo (es.drop j) dv) doms
theorem Hist.more {g : Heap} {pn pn' : List (Addr × Obj)} {sv dv : List Value} {es : List (Nat × Value)} {hist : List (List Rng)} (x : Hist g pn sv es dv hist) (h : ∀ p ∈ pn, p ∈ pn') : Hist g pn' sv es dv hist :=
  ⟨x.1, x.2.1, fun j d e => let ⟨⟨l, lv, a, b, c⟩, v⟩ := x.2.2 j d e; ⟨⟨l, lv, a, b.more h, c.more h⟩, v.more h⟩⟩
/-- what stands in the tail, and never changes -/
structure Tail (w : World) (g : Heap) (P : Fx) (pn : List (Addr × Obj)) : Prop where
  fl : LstPn g pn P.fl P.fv
  full : FullPn g pn P.fv
  rl : LstPn g pn P.rl P.vals
  gl : LstPn g pn P.gl P.dgv
  ca : LstPn g pn P.ca P.cells
  br : ∀ h, Stays g h → (∀ p ∈ pn, h.get? p.1 = some p.2) → IsTup h P.sa P.vals.toArray ∧ h.MapOf (intKind PR w) P.dg P.f
theorem Tail.more {w : World} {g : Heap} {P : Fx} {pn pn' : List (Addr × Obj)} (x : Tail w g P pn) (h : ∀ p ∈ pn, p ∈ pn') : Tail w g P pn' :=
  ⟨x.fl.more h, x.full.more h, x.rl.more h, x.gl.more h, x.ca.more h, fun hh k1 k2 => x.br hh k1 fun p hp => k2 p (h p hp)⟩
/-- what the numbers of the law's case are -/
structure Plain (P : Fx) : Prop where
  o5 : P.o < 5
  row : RowIs P.vals P.row
  rin : ∀ x ∈ P.row, x < P.many
  rz : P.row.length ≤ 100
  dgv : IntsAre P.dgv ((List.range P.many).map P.deg)
  dgs : DegsAt P.f P.deg P.many
  many : P.many ≤ 3
  many0 : 0 < P.many
  cells : IntsAre P.cells P.cns
  cz : P.cns.length ≤ 100
  dgn : (P.dg == sysModules) = false
  bn : (P.b == sysModules) = false
  cab : P.ca ≠ P.b
  fD : Apart P.fl P.D
  fdl : Apart P.fl P.dl
  ftl : Apart P.fl P.tl
theorem BrR.ofLed {w : World} {g h : Heap} {L : Addr} {m : PySem.Str → Option Value} {P : Fx} {pn news : List (Addr × Obj)} {b Db : Addr} {hs : Nat → Int} {ts : Nat → Tok} {o : Nat} {t1 t2 : Tok} {n : Nat} (F : Fr g L h m) (N : News g L h news) (T : Tail w g P pn) (hs' : ∀ p ∈ pn, p ∈ news) (h1 : (b, brObj Db) ∈ news)
    (h2 : (Db, dictOf (brEs hs ts (.ref P.sa) (.str (Str.ofString (ordName o)) t1) (.str (Str.ofString "median") t2) (.ref P.dg)) n) ∈ news) (hn : (P.dg == sysModules) = false) : BrR w h b Db hs ts P.sa P.vals o t1 t2 P.dg P.f n :=
  let y := T.br h F.keep fun p hp => (N p (hs' p hp)).1
  ⟨(N _ h1).1, (N _ h2).1, y.1, y.2, hn⟩
theorem DeskR.ofLed {g h : Heap} {L : Addr} {news : List (Addr × Obj)} {a D dl : Addr} {dv : List Value} {n1 n : Nat} {hs : Nat → Int} {ts : Nat → Tok} {vf vt vm vn vsp vi vc : Value} (N : News g L h news) (h1 : (a, storeObj D) ∈ news) (h2 : (D, dictOf (storeEs hs ts (.ref dl) vf vt vm vn vsp vi vc) n) ∈ news) (h3 : (dl, lstObj dv n1) ∈ news) :
    DeskR h a dv D dl hs ts vf vt vm vn vsp vi vc n := ⟨(N _ h1).1, (N _ h2).1, N.isList h3⟩
theorem place_zz {wv : Value} {doms : List Rng} {o : Nat} {deg : Nat → Int} {row : List Nat} (h : WantIs wv (wantedOf doms o deg row))
    (k : (wantedOf doms o deg row = none ∧ nextOf doms o deg row = -1) ∨ ∃ x : Nat, wantedOf doms o deg row = some x ∧ nextOf doms o deg row = (x : Int) ∧ x < doms.length) :
    (wv = .none ∧ nextOf doms o deg row = -1) ∨ ∃ (x : Nat) (t : Tok), wv = .int (x : Int) t ∧ nextOf doms o deg row = (x : Int) ∧ x < doms.length := by
  rcases k with ⟨a, b⟩ | ⟨x, a, b, c⟩
  · rw [a] at h; exact .inl ⟨h, b⟩
  · rw [a] at h; obtain ⟨t, h⟩ := h; exact .inr ⟨x, t, h, b, c⟩
theorem add_L {prog : Program} {w : World} {A : Around} {E : Value → Shared → Prop} {s : Shared} {g : Heap} {L a b : Addr} {m : PySem.Str → Option Value} {news : List (Addr × Obj)} {vs ws : List Value} {Q : Value → Shared → Prop} (F : Fr g L s.heap m) (N : News g L s.heap news) (ha : s.heap.IsList a vs.toArray) (hb : s.heap.IsList b ws.toArray) (hz : vs.length + ws.length ≤ 1000)
    (h : ∀ D h', Fr g L h' m → News g L h' ((D, lstObj (vs ++ ws) 0) :: news) → (∀ p ∈ news, p.1 < D) → Q (.ref D) { s with heap := h' }) : wpAny (model prog w) A (binaryOp .Add (.ref a) (.ref b)) Q E s :=
  add_lists F N ha hb (fun h' F' N' => h _ h' F' N' fun p hp => Heap.lt_size (N p hp).1) (le_sizeLine hz)

end
theorem rows94 : True := by
  k_with "k all" => exact OwnOff.at (by with_reducible assumption) (by k_mem)
  k_with "k ne" => first | exact Apart.ne (by with_reducible assumption) | exact (Apart.ne (by with_reducible assumption)).symm | exact news_ne (by with_reducible assumption) (by k_mem) (by k_mem) (by k_extra "m cls") | (refine neN ?_; (try dsimp only); first | k_extra "m ne0" | omega)
  k_with "m lots" => first | with_reducible assumption | exact LPn.at (by with_reducible assumption) (by with_reducible assumption) (by with_reducible assumption) (by k_extra "m own")
  k_with "m vars" => first | with_reducible assumption | exact VPn.at (by with_reducible assumption) (by with_reducible assumption) (by with_reducible assumption) (by k_extra "m own")
  k_with "m desk" => first | with_reducible assumption | exact DeskR.ofLed (by with_reducible assumption) (by k_mem) (by k_mem) (by k_mem)
  k_with "m br" => first | with_reducible assumption | exact BrR.ofLed (by with_reducible assumption) (by with_reducible assumption) (by with_reducible assumption) (by k_extra "m own") (by k_mem) (by k_mem) (by with_reducible assumption)
  k_with "m prs" => first | with_reducible assumption | exact InPn.prs (by with_reducible assumption) (by with_reducible assumption) (by with_reducible assumption) (by k_extra "m own") | exact LInPn.prs (by with_reducible assumption) (by with_reducible assumption) (by with_reducible assumption) (by k_extra "m own") | exact Prs.mono (Fr.keep (by with_reducible assumption)) (by with_reducible assumption)
  k_with "m tup" => first | with_reducible assumption | exact News.isTup (by with_reducible assumption) (by k_mem) | exact InPn.tup (by with_reducible assumption) (by with_reducible assumption) (by with_reducible assumption) (by k_extra "m own") | exact fr_tup (by with_reducible assumption) (by with_reducible assumption)
  k_with "binaryOp Add ref ref" => (k_here; (with_reducible show wpAny _ _ (binaryOp _ (Value.ref _) (Value.ref _)) _ _ _); k_dflt (refine' add_L (by k_asm) (by k_asm) (by k_extra "m list") (by k_extra "m list") (by first | assumption | ((simp only [List.length_append, List.length_cons, List.length_nil, List.length_take, List.length_drop]); omega)) ?_; k_whole); intro _ _ _ _ l'; (k_lt l'); revert l'; intro _; (try k_sweep))
  k_with "call ref" => (k_here; (with_reducible show wpAny _ _ (call (Value.ref 354) _) _ _ _); k_dflt (refine' place_spec (by assumption) (by k_extra "m stays") (by k_extra "m calm") (by k_extra "m desk") (by k_extra "m br") (by assumption) (by k_extra "m vars") (by assumption) (by assumption) (by assumption) (by assumption) (by k_extra "m list") (by k_extra "m lots") (by exact place_zz (by assumption) (by assumption)) (by assumption) ?_; intro _ _ _; k_extra "m kept"))
  trivial
section
theorem off95 : True := by
  w_top off
  trivial
noncomputable def ifBody : Stmt → List Stmt | .If _ b _ _ => b | _ => []
noncomputable def ifElse : Stmt → List Stmt | .If _ _ e _ => e | _ => []
noncomputable def turnBody : List Stmt := loopBody (lawBody.getD 8 default)
noncomputable def upBody : List Stmt := ifBody (turnBody.getD 5 default)
noncomputable def downBody : List Stmt := ifBody ((ifElse (turnBody.getD 5 default)).getD 0 default)
noncomputable def Halt (p : Prop) : Prop := p
theorem halt {p : Prop} (h : Halt p) : p := h
/-- all that holds between the turns, but for the frame and the ledger -/
structure JF (w : World) (g : Heap) (L : Addr) (P : Fx) (i : Nat) (ob : Obj) (ml nd sl ll : Addr) (dv tr ms sv lv : List Value) (od : Obj) (nn : Nat) (cur : List Rng) (hist : List (List Rng)) (es : List (Nat × Value)) (pn : List (Addr × Obj)) (nb : Nat) : Prop where
  bag : BagIs w ob P.ca nb
  hnb : nb ≤ 500 + 10 * i + 9
  off : OwnOff pn [P.b, P.D, P.dl, P.tl, ml, nd, sl]
  ap : Apart P.b P.D ∧ Apart P.b nd ∧ Apart P.b P.Db ∧ Apart P.D nd ∧ Apart P.D P.Db ∧ Apart nd P.Db ∧ Apart P.dl P.tl ∧ Apart P.dl ml ∧ Apart P.dl sl ∧ Apart P.tl ml ∧ Apart P.tl sl ∧ Apart ml sl
  aL : Apart (L + 1) P.b ∧ Apart (L + 1) P.D ∧ Apart (L + 1) P.dl ∧ Apart (L + 1) P.tl ∧ Apart (L + 1) ml ∧ Apart (L + 1) nd ∧ Apart (L + 1) sl
  tl : Tail w g P pn
  v : VPn g pn dv cur
  ls : LstPn g pn ll lv
  lp : LPn g pn lv cur
  ftr : TrPn g pn tr es
  hi : Hist g pn sv es dv hist
  fcur : OkD P.many (4 + i) cur
  fhist : ∀ d ∈ hist, OkD P.many (4 + i) d
  fhl : hist.length ≤ i
  fms : IntsAre ms ((List.range hist.length).map fun (x : Nat) => (x : Int))
  fes : ∀ e ∈ es, e.1 < P.many
  fod : IntDictIs od nn
  fnn : nn ≤ i
noncomputable abbrev mapOf (P : Fx) (ll sl : Addr) (u1 u2 u3 u4 u5 u6 u7 u8 u9 u10 : Option Value) : List (PySem.Str × Option Value) :=
  [(Str.ofString "lap", u1), (Str.ofString "way", u2), (Str.ofString "x", u3), (Str.ofString "mark", u4), (Str.ofString "k", u5), (Str.ofString "below", u6), (Str.ofString "above", u7), (Str.ofString "literal", u8), (Str.ofString "kept", u9), (Str.ofString "deep", u10),
      (Str.ofString "lots", some (.ref ll)), (Str.ofString "stack", some (.ref sl)), (Str.ofString "desk", some (.ref P.a)), (Str.ofString "many", some (.int (P.many : Int) P.tm)), (Str.ofString "order", some (.str (Str.ofString (ordName P.o)) P.to)), (Str.ofString "degrees", some (.ref P.gl)), (Str.ofString "row", some (.ref P.rl)), (Str.ofString "brancher", some (.ref P.br))]
noncomputable abbrev ledOf (L : Addr) (P : Fx) (ob : Obj) (hs : Nat → Int) (ts : Nat → Tok) (ml nd : Addr) (vsp vi vc : Value) (dv tr ms sv : List Value) (n1 n2 n3 n4 : Nat) (od : Obj) (sl : Addr) (pn : List (Addr × Obj)) : List (Addr × Obj) :=
  (P.b, ob) :: (P.D, dictOf (storeEs hs ts (.ref P.dl) (.ref P.fl) (.ref P.tl) (.ref ml) (.ref nd) vsp vi vc) 8) :: (P.dl, lstObj dv n1) :: (P.tl, lstObj tr n2) :: (ml, lstObj ms n3) :: (nd, od) :: (sl, lstObj sv n4) :: (P.a, storeObj P.D) ::
      (P.br, brObj P.Db) :: (P.Db, dictOf (brEs P.hs' P.ts' (.ref P.sa) (.str (Str.ofString (ordName P.o)) P.t1) (.str (Str.ofString "median") P.t2) (.ref P.dg)) 4) :: (L + 1, P.ocl) :: pn
inductive JMain (w : World) (g : Heap) (L : Addr) (P : Fx) (i : Nat) (m : PySem.Str → Option Value) (news : List (Addr × Obj)) : Prop
  | mk (ob : Obj) (hs : Nat → Int) (ts : Nat → Tok) (ml nd : Addr) (vsp vi vc : Value) (dv tr ms sv : List Value) (n1 n2 n3 n4 : Nat) (od : Obj) (nn : Nat) (sl ll : Addr) (lv : List Value) (cur : List Rng) (hist : List (List Rng)) (es : List (Nat × Value)) (pn : List (Addr × Obj)) (nb : Nat) (u1 u2 u3 u4 u5 u6 u7 u8 u9 u10 : Option Value) (em : m = ov (mapOf P ll sl u1 u2 u3 u4 u5 u6 u7 u8 u9 u10) P.m0) (en : news = ledOf L P ob hs ts ml nd vsp vi vc dv tr ms sv n1 n2 n3 n4 od sl pn) (j : JF w g L P i ob ml nd sl ll dv tr ms sv lv od nn cur hist es pn nb) (hnb : nb ≤ 500 + 10 * i) : JMain w g L P i m news
theorem jMain_of {w : World} {g : Heap} {L : Addr} {P : Fx} {i : Nat} {ob : Obj} {ml nd sl ll : Addr} {dv tr ms sv lv : List Value} {od : Obj} {nn : Nat} {cur : List Rng} {hist : List (List Rng)} {es : List (Nat × Value)} {pn : List (Addr × Obj)} {nb : Nat} {hs : Nat → Int} {ts : Nat → Tok} {vsp vi vc : Value} {n1 n2 n3 n4 : Nat} {u1 u2 u3 u4 u5 u6 u7 u8 u9 u10 : Option Value} {m : PySem.Str → Option Value}
    (j : JF w g L P i ob ml nd sl ll dv tr ms sv lv od nn cur hist es pn nb) (hnb : nb ≤ 500 + 10 * i) (hm : m = ov (mapOf P ll sl u1 u2 u3 u4 u5 u6 u7 u8 u9 u10) P.m0) : JMain w g L P i m (ledOf L P ob hs ts ml nd vsp vi vc dv tr ms sv n1 n2 n3 n4 od sl pn) :=
  .mk _ hs ts _ _ vsp vi vc _ _ _ _ n1 n2 n3 n4 _ _ _ _ _ _ _ _ _ _ u1 u2 u3 u4 u5 u6 u7 u8 u9 u10 hm rfl j hnb
theorem undo_snoc (es : List (Nat × Value)) (p : Nat × Value) (vs : List Value) : undo (es ++ [p]) vs = undo es (vs.set p.1 p.2) := by
  rw [undo, List.foldr_append]; rfl
theorem set_back {dv : List Value} {x : Nat} {r d : Value} (h : dv[x]? = some d) : (dv.set x r).set x d = dv := by
  rw [List.set_set]
  apply List.ext_getElem?
  intro i
  by_cases e : x = i
  · subst e
    have hl : x < dv.length := by obtain ⟨q, _⟩ := List.getElem?_eq_some_iff.mp h; exact q
    rw [List.getElem?_set_self hl, h]
  · rw [List.getElem?_set_ne e]
theorem hist_push {g : Heap} {pn : List (Addr × Obj)} {sv dv lv : List Value} {es : List (Nat × Value)} {hist : List (List Rng)} {cur : List Rng} {ll : Addr} {x : Nat} {d r : Value} (H : Hist g pn sv es dv hist) (V : VPn g pn dv cur) (Ls : LstPn g pn ll lv) (Lp : LPn g pn lv cur) (hd : dv[x]? = some d) :
    Hist g pn (sv ++ [.ref ll]) (es ++ [(x, d)]) (dv.set x r) (hist ++ [cur]) := by
  refine ⟨by simp [H.1], by simp [H.2.1], fun j doms e => ?_⟩
  rcases getElem?_snoc e with e | ⟨rfl, rfl⟩
  · obtain ⟨⟨l, lw, a, b, c⟩, v⟩ := H.2.2 j doms e
    have hj : j < hist.length := by obtain ⟨q, _⟩ := List.getElem?_eq_some_iff.mp e; exact q
    have h1 := H.1
    have h2 := H.2.1
    refine ⟨⟨l, lw, by rw [List.getElem?_append_left (by omega)]; exact a, b, c⟩, ?_⟩
    rw [List.drop_append_of_le_length (by omega), undo_snoc, set_back hd]; exact v
  · refine ⟨⟨ll, lv, by rw [← H.1]; simp, Ls, Lp⟩, ?_⟩
    rw [show (es ++ [(x, d)]).drop hist.length = [(x, d)] by rw [← H.2.1]; simp]
    show VPn g pn ((dv.set x r).set x d) doms
    rw [set_back hd]; exact V
theorem undo_append (a b : List (Nat × Value)) (vs : List Value) : undo (a ++ b) vs = undo a (undo b vs) := by rw [undo, List.foldr_append]; rfl
theorem hist_take {g : Heap} {pn : List (Addr × Obj)} {sv dv : List Value} {es : List (Nat × Value)} {hist : List (List Rng)} {j : Nat} (H : Hist g pn sv es dv hist) (hj : j ≤ hist.length) : Hist g pn (sv.take j) (es.take j) (undo (es.drop j) dv) (hist.take j) := by
  refine ⟨by simp [H.1], by simp [H.2.1], fun i doms e => ?_⟩
  rw [List.getElem?_take] at e
  split at e
  · rename_i hi
    obtain ⟨⟨l, lw, a, b, c⟩, v⟩ := H.2.2 i doms e
    refine ⟨⟨l, lw, by rw [List.getElem?_take, if_pos hi]; exact a, b, c⟩, ?_⟩
    have hl := H.2.1
    have : es.drop i = (es.take j).drop i ++ es.drop j := by
      conv => lhs; rw [← List.take_append_drop j es]
      rw [List.drop_append_of_le_length (by rw [List.length_take]; omega)]
    rw [this, undo_append] at v
    exact v
  · cases e
theorem fresh_ne {g h : Heap} {L a : Addr} {news : List (Addr × Obj)} (N : News g L h news) (e : h.get? a = none) : ∀ p ∈ news, @Ne Nat p.1 a := fun p hp q => by
  have y := (N p hp).1
  rw [show p.1 = a from q, e] at y; cases y
theorem news_sub {g h : Heap} {L : Addr} {news nx : List (Addr × Obj)} (N : News g L h news) (hs : ∀ q ∈ nx, q ∈ news) : News g L h nx := fun q hq => N q (hs q hq)
theorem okD_set {many n x : Nat} {cur : List Rng} {rs : Rng} (h : OkD many n cur) (h1 : Good rs) (h2 : rs ≠ []) (h3 : rs.length ≤ n + 1) : OkD many (n + 1) (cur.set x rs) := by
  refine ⟨by rw [List.length_set]; exact h.1, fun r hr => ?_⟩
  rcases List.mem_or_eq_of_mem_set hr with hr | rfl
  · obtain ⟨a, b, c⟩ := h.2 r hr
    exact ⟨a, b, by omega⟩
  · exact ⟨h1, h2, h3⟩
theorem ms_snoc {ms : List Value} {d n : Nat} {t : Tok} (h : IntsAre ms ((List.range d).map fun (x : Nat) => (x : Int))) (e : n = d) : IntsAre (ms ++ [.int (n : Int) t]) ((List.range (d + 1)).map fun (x : Nat) => (x : Int)) := by
  subst e
  rw [List.range_succ, List.map_append]; exact ints_snoc h

end
theorem rows95 : True := by
  k_with "m cls" => first | (simp only [ne_eq, Value.type.injEq, reduceCtorEq, not_false_eq_true]; done) | (simp; done) | ((rename Obj.cls _ = Value.type "dict" => hq'); rw [hq']; simp; done) | ((rename IntDictIs _ _ => hq'); rw [hq'.1]; simp; done)
  k_with "m perm2" => (repeat' first | exact List.forall_mem_nil _ | (refine in_cons ?_ ?_; first | with_reducible assumption | k_extra "m mem") | (intro _ _; k_ownIn))
  trivial
section
theorem off96 : True := by
  w_top off
  trivial
theorem sep2 {I : Addr} {l : List (Addr × Obj)} (h : ∀ r ∈ l, @Ne Nat r.1 I) {oI : Obj} : ∀ r ∈ l, ∀ u ∈ [(I, oI)], @Ne Nat r.1 u.1 := sep1 h
set_option pp.deepTerms false
set_option pp.deepTerms.threshold 4
theorem law_down {w : World} {mean : ExcName → Option Value} {mg mb : PySem.Str → Option Value} {s s₁ : Shared} {g : Heap} {fa : Addr} {cd : Value} {L : Addr} {E' : Value → Shared → Prop} {P : Fx} {i : Nat} {I : Addr} {oI : Obj} {ob : Obj} {ml nd sl ll : Addr} {dv tr ms sv lv : List Value} {od : Obj} {nn : Nat} {cur : List Rng} {hist : List (List Rng)} {es : List (Nat × Value)} {pn : List (Addr × Obj)} {nb : Nat}
    {hs : Nat → Int} {ts : Nat → Tok} {vsp vi vc : Value} {n1 n2 n3 n4 : Nat} {u1 u2 u5 u6 u7 u10 : Option Value} {x way : Nat} {tx tmk t1 t2 t3 : Tok} {kp lit : Addr} {ki : List Value} {rs : Rng} {kn : Int}
    (C : Core w mean mg mb g) (hA : Calm (callerA.deeper (lawEnv L fa cd)) 20) (hoc : P.ocl.data = .cell (some (.ref P.b))) (hP : Plain P) (hi : i < 8) (J : JF w g L P i ob ml nd sl ll dv tr ms sv lv od nn cur hist es pn nb) (hnb : nb ≤ 500 + 10 * i + 3)
    (hx : x < P.many) (hrs : cur[x]? = some rs) (hw : way < 3) (hkp : LInPn g pn kp ki (struckBy way rs kn)) (hkn : struckBy way rs kn ≠ []) (hkc : struckBy way rs kn ≠ rs) (hkg : Good (struckBy way rs kn)) (hkz : (struckBy way rs kn).length ≤ rs.length + 1)
    (hlit : ∀ h, Stays g h → (∀ p ∈ pn, h.get? p.1 = some p.2) → IsTup h lit #[.int (x : Int) t1, .str (Str.ofString (signOf way)) t2, .int kn t3])
    (F : Fr g L s.heap (ov (mapOf P ll sl u1 u2 (some (.int (x : Int) tx)) (some (.int (tr.length : Int) tmk)) u5 u6 u7 (some (.ref lit)) (some (.ref kp)) u10) P.m0))
    (N : News g L s.heap ((I, oI) :: ledOf L P ob hs ts ml nd vsp vi vc dv tr ms sv n1 n2 n3 n4 od sl pn))
    (hoff8 : OwnOff pn [P.b, P.D, P.dl, P.tl, ml, nd, sl, I]) (aI : Apart P.b I ∧ Apart P.D I ∧ Apart P.dl I ∧ Apart P.tl I ∧ Apart ml I ∧ Apart nd I ∧ Apart sl I ∧ Apart P.a I ∧ Apart P.br I ∧ Apart P.Db I ∧ Apart (L + 1) I) (hoI : oI.cls ≠ .type "tuple") (es₁ : s = { s₁ with heap := s.heap, toks := s.toks }) :
    wpAny (model PR w) (callerA.deeper (lawEnv L fa cd)) (execs downBody (lawEnv L fa cd)) (fun f s' => f = .next ∧ ForEnd g L [(I, oI)] (JMain w g L P (i + 1)) s₁ s') E' s := by
  obtain ⟨hS, tkS, rfl⟩ : ∃ h tk, s = { s₁ with heap := h, toks := tk } := ⟨_, _, es₁⟩
  clear es₁
  have X := C.X
  have T := C.T
  have kk0 : Stays g g := fun _ _ e => e
  k_extra "m fill"
  conv => arg 3; arg 1; whnf
  obtain ⟨sc, hsc⟩ : ∃ sc, sc = lawScope := ⟨_, rfl⟩
  simp only [lawEnv, ← hsc] at hA ⊢
  conv at hsc => rhs; whnf
  subst hsc
  try k_fold
  obtain ⟨hbag, hnb0, hoff, ⟨ap1, ap2, ap3, ap4, ap5, ap6, ap7, ap8, ap9, ap10, ap11, ap12⟩, ⟨aL1, aL2, aL3, aL4, aL5, aL6, aL7⟩, hTl, hV, hLs, hLp, hTr, hHi, hcur, hhist, hhl, hms, hes, hod, hnn⟩ := J
  obtain ⟨aI1, aI2, aI3, aI4, aI5, aI6, aI7, aI8, aI9, aI10, aI11⟩ := aI
  have hbc := hbag.cls
  clear hoff
  have hcxl : cur.length = P.many := hcur.1
  have htrl : tr.length = hist.length := by rw [hTr.1, hHi.2.1]
  have htrz : tr.length ≤ 1000 := by omega
  have hmsl : ms.length ≤ 1000 := by
    have := IntsAre.length hms
    simp only [List.length_map, List.length_range] at this; omega
  have hbB : g.get? P.b = none := (N (P.b, ob) (by k_mem)).2.2
  have hmlB : g.get? ml = none := (N (ml, lstObj ms n3) (by k_mem)).2.2
  obtain ⟨hgx, hnx, hzx⟩ := hcur.2 _ (List.mem_of_getElem? hrs)
  obtain ⟨dd, ditems, hvd, hid, hdn, hdz⟩ := hV.2 x _ hrs
  have hxf : x < 2 ^ 62 := by have := hP.many; omega
  have hxl : x < dv.length := by rw [hV.1, hcur.1]; exact hx
  have hdvz : dv.length ≤ 1000 := by rw [hV.1, hcur.1]; have := hP.many; omega
  have hlvl : lv.length = P.many := by rw [hLp.1, hcur.1]
  have hlvz : lv.length ≤ 3 := by rw [hlvl]; exact hP.many
  have hsvl : sv.length ≤ 1000 := by rw [hHi.1]; omega
  k_steps
  refine push_spec C (stays_fr kk0 F) (by k_extra "m calm") (N.get (a := P.a) (by k_mem)) (N.get (a := P.D) (by k_mem)) (N.isList (a := P.tl) (by k_mem)) htrz hmsl (hm_one N (by k_mem) hmlB) (by k_ne) (by k_ne) (by k_ne) fun h1 tk1 tp1 k1 e1 => ?_
  have FN := fr_upd F N (by k_updF) k1 e1
  clear F N k1 e1
  obtain ⟨F, N⟩ := FN
  try dsimp only at N
  dsimp only
  k_steps
  rename Fr _ _ _ _ => F1
  rename News _ _ _ _ => N1
  have hlt : IsTup _ lit #[.int (x : Int) t1, .str (Str.ofString (signOf way)) t2, .int kn t3] := hlit _ F1.keep fun p hp => (N1 p (.tail _ (.tail _ (.tail _ (.tail _ (.tail _ (.tail _ (.tail _ (.tail _ (.tail _ (.tail _ (.tail _ (.tail _ hp))))))))))))).1
  refine decide_spec C (stays_fr kk0 F1) (by k_extra "m calm") (N1.get (a := P.D) (by k_mem)) (N1.get (a := P.a) (by k_mem)) hw hlt hvd (hid.tup F1 N1 (by k_extra "m own")) (hid.prs F1 N1 (by k_extra "m own")) (by omega) hkn hkc hdvz htrz (by omega) hod hxl hxf
    ((in_cons (⟨(N1 (P.dl, lstObj dv n1) (by k_mem)).1, (N1 (P.dl, lstObj dv n1) (by k_mem)).2.2⟩) ((in_cons (⟨(N1 (P.tl, lstObj tr n2) (by k_mem)).1, (N1 (P.tl, lstObj tr n2) (by k_mem)).2.2⟩) ((in_cons (⟨(N1 (nd, od) (by k_mem)).1, (N1 (nd, od) (by k_mem)).2.2⟩) (List.forall_mem_nil _)))))))
    (by k_ne) (by k_ne) (by k_ne) (by simp only [List.mem_cons, List.not_mem_nil, or_false, not_or]; exact ⟨by k_ne, by k_ne, by k_ne⟩) (by simp only [List.mem_cons, List.not_mem_nil, or_false, not_or]; exact ⟨by k_ne, by k_ne, by k_ne⟩) fun h2 tk2 od2 r e k2 f1 f2 f3 d3 dr er => ?_
  have d3' : IntDictIs od2 (nn + 1) ∧ True := ⟨d3, trivial⟩
  clear d3
  have FN := fr_upd3 F1 N1 (by k_updF) (by (try dsimp only); k_updF) (by (try dsimp only); k_updF) k2 f1 f2 f3 (by k_ne) (by k_ne) (by k_ne)
  clear F1 N1 k2 f1 f2 f3 hlt
  obtain ⟨F2, N2⟩ := FN
  try dsimp only at N2
  clear hod
  have d3 := d3'.1
  clear d3'
  have nt2 : NotTup h2 [P.b, P.D, P.dl, P.tl, ml, nd, sl, I] := newsNotTup N2 (by k_extra "m nt")
  obtain ⟨ad, avs, pA, rfl, N3, offA, inA, _⟩ := absorb F2 N2 dr _ nt2
  obtain ⟨pB, N4, offB, enB⟩ := absorbE F2 N3 er _ nt2
  clear N2 N3 nt2 dr er
  simp only [List.cons_append] at N4
  obtain ⟨pq, hpq⟩ : ∃ pq, pq = (pn ++ pA) ++ pB := ⟨_, rfl⟩
  rw [← hpq] at N4
  have hsub : ∀ p ∈ pn, p ∈ pq := fun p hp => hpq ▸ List.mem_append_left _ (List.mem_append_left _ hp)
  replace hoff8 : OwnOff pq [P.b, P.D, P.dl, P.tl, ml, nd, sl, I] := hpq ▸ OwnOff.app (OwnOff.app hoff8 offA) offB
  replace inA : InPn g pq ad avs (struckBy way rs kn) := inA.more fun p hp => hpq ▸ List.mem_append_left _ (List.mem_append_right _ hp)
  replace enB : EntryPn g pq e x (.ref dd) := enB.more fun p hp => hpq ▸ List.mem_append_right _ hp
  replace hTl := hTl.more hsub
  replace hV := hV.more hsub
  replace hLs := hLs.more hsub
  replace hLp := hLp.more hsub
  replace hTr := hTr.more hsub
  replace hHi := hHi.more hsub
  replace hid := hid.more hsub
  replace hkp := hkp.more hsub
  clear hsub hpq offA offB hlit
  have hk1 : (x : Int) = (x : Int) := rfl
  have hk2 : (x : Int) + 1 = ((x + 1 : Nat) : Int) := by omega
  have hj1 : x ≤ lv.length := by omega
  have hj2 : x + 1 ≤ lv.length := by omega
  have htrz' : (tr ++ [e]).length ≤ 1000 := by rw [List.length_append]; simp only [List.length_cons, List.length_nil]; omega
  dsimp only
  k_steps
  · exfalso
    rename (_ : Int) ≠ _ => hne
    apply hne
    rw [List.length_append]; simp
  · exfalso
    rename (_ : Int) ≠ _ => hne
    apply hne
    rw [List.length_append]; simp
  · rename Fr _ _ _ _ => F9
    rename News _ _ _ _ => N9
    rename_i w1 w2 w3 w4 w5 w6 D3 w7 w8 l3 w9 w10 D2 w11 w12 D1 w13 w14 DD w15 lDD w16
    have hnew : (lv.take x ++ [Value.ref kp]) ++ lv.drop (x + 1) = lv.set x (.ref kp) := by
      rw [List.set_eq_take_append_cons_drop, if_pos (by omega)]; simp
    rw [hnew] at N9
    have sub : ∀ p ∈ pq, p ∈ (DD, lstObj (lv.set x (.ref kp)) 0) :: pq := fun p hp => .tail _ hp
    have hgz : (struckBy way rs kn).length ≤ (4 + i) + 1 := by omega
    refine ⟨_, _, _, _, ledOf L P ob hs ts ml nd vsp vi vc (dv.set x (.ref ad)) (tr ++ [e]) (ms ++ [.int (tr.length : Int) tp1]) (sv ++ [.ref ll]) n1 (n2 + 1) (n3 + 1) (n4 + 1) od2 sl ((DD, lstObj (lv.set x (.ref kp)) 0) :: pq), rfl, F9, N9, (by k_extra "m perm"), (by k_extra "m perm"),
      (sep2 ((in_cons aI1.ne ((in_cons aI2.ne ((in_cons aI3.ne ((in_cons aI4.ne ((in_cons aI5.ne ((in_cons aI6.ne ((in_cons aI7.ne ((in_cons aI8.ne ((in_cons aI9.ne ((in_cons aI10.ne ((in_cons aI11.ne ((in_cons (Ne.symm (Nat.ne_of_lt (by k_extra "m lt"))) (fun p hp => hoff8 p hp I (by k_mem))))))))))))))))))))))))))),
      jMain_of (u1 := u1) (u2 := u2) (u3 := some (.int (x : Int) tx)) (u4 := some (.int (tr.length : Int) tmk)) (u5 := u5) (u6 := u6) (u7 := u7) (u8 := some (.ref lit)) (u9 := some (.ref kp)) (u10 := u10) (cur := cur.set x (struckBy way rs kn)) (hist := hist ++ [cur]) (es := es ++ [(x, .ref dd)]) (nn := nn + 1) (nb := nb) (ll := DD) (lv := lv.set x (.ref kp)) ⟨hbag, by omega, OwnOff.cons (by k_extra "m off") (own_in (by k_extra "m offall")), ⟨ap1, ap2, ap3, ap4, ap5, ap6, ap7, ap8, ap9, ap10, ap11, ap12⟩, ⟨aL1, aL2, aL3, aL4, aL5, aL6, aL7⟩, hTl.more sub,
        (hV.more sub).set (by omega) (inA.more sub) hkn (by omega), fun h k1 k2 => ⟨_, k2 _ (.head _), rfl, 0, rfl⟩, (hLp.more sub).set (by omega) (hkp.more sub) hkn (by omega), (hTr.more sub).snoc (enB.more sub), hist_push (hHi.more sub) (hV.more sub) (hLs.more sub) (hLp.more sub) hvd, okD_set hcur hkg hkn hgz, fun d hd => ?_, by simp; omega,
        by rw [List.length_append]; exact ms_snoc hms htrl, fun e he => ?_, d3, by omega⟩ (by omega) ?_⟩
    · rcases List.mem_append.mp hd with hd | hd
      · exact (hhist d hd).mono (by omega)
      · cases List.mem_singleton.mp hd; exact hcur.mono (by omega)
    · rcases List.mem_append.mp he with he | he
      · exact hes e he
      · cases List.mem_singleton.mp he; exact hx
    · exact ov_eq _ (by k_extra "m in") (by k_extra "m out")

end
section
theorem off97 : True := by
  w_top off
  trivial
set_option pp.deepTerms false
set_option pp.deepTerms.threshold 4
theorem law_up {w : World} {mean : ExcName → Option Value} {mg mb : PySem.Str → Option Value} {s s₁ : Shared} {g : Heap} {fa : Addr} {cd : Value} {L : Addr} {E' : Value → Shared → Prop} {P : Fx} {i : Nat} {I : Addr} {oI : Obj} {ob : Obj} {ml nd sl ll : Addr} {dv tr ms sv lv : List Value} {od : Obj} {nn : Nat} {cur : List Rng} {hist : List (List Rng)} {es : List (Nat × Value)} {pn : List (Addr × Obj)} {nb : Nat}
    {hs : Nat → Int} {ts : Nat → Tok} {vsp vi vc : Value} {n1 n2 n3 n4 : Nat} {u1 u2 u3 u4 u5 u6 u7 u8 u9 u10 : Option Value}
    (C : Core w mean mg mb g) (hA : Calm (callerA.deeper (lawEnv L fa cd)) 20) (hoc : P.ocl.data = .cell (some (.ref P.b))) (hP : Plain P) (hi : i < 8) (J : JF w g L P i ob ml nd sl ll dv tr ms sv lv od nn cur hist es pn nb) (hnb : nb ≤ 500 + 10 * i + 3) (hne : sv ≠ [])
    (F : Fr g L s.heap (ov (mapOf P ll sl u1 u2 u3 u4 u5 u6 u7 u8 u9 u10) P.m0))
    (N : News g L s.heap ((I, oI) :: ledOf L P ob hs ts ml nd vsp vi vc dv tr ms sv n1 n2 n3 n4 od sl pn))
    (hoff8 : OwnOff pn [P.b, P.D, P.dl, P.tl, ml, nd, sl, I]) (aI : Apart P.b I ∧ Apart P.D I ∧ Apart P.dl I ∧ Apart P.tl I ∧ Apart ml I ∧ Apart nd I ∧ Apart sl I ∧ Apart P.a I ∧ Apart P.br I ∧ Apart P.Db I ∧ Apart (L + 1) I) (hoI : oI.cls ≠ .type "tuple") (es₁ : s = { s₁ with heap := s.heap, toks := s.toks }) :
    wpAny (model PR w) (callerA.deeper (lawEnv L fa cd)) (execs upBody (lawEnv L fa cd)) (fun f s' => f = .next ∧ ForEnd g L [(I, oI)] (JMain w g L P (i + 1)) s₁ s') E' s := by
  obtain ⟨hS, tkS, rfl⟩ : ∃ h tk, s = { s₁ with heap := h, toks := tk } := ⟨_, _, es₁⟩
  clear es₁
  have X := C.X
  have T := C.T
  have kk0 : Stays g g := fun _ _ e => e
  k_extra "m fill"
  conv => arg 3; arg 1; whnf
  obtain ⟨sc, hsc⟩ : ∃ sc, sc = lawScope := ⟨_, rfl⟩
  simp only [lawEnv, ← hsc] at hA ⊢
  conv at hsc => rhs; whnf
  subst hsc
  try k_fold
  obtain ⟨hbag, hnb0, hoff, ⟨ap1, ap2, ap3, ap4, ap5, ap6, ap7, ap8, ap9, ap10, ap11, ap12⟩, ⟨aL1, aL2, aL3, aL4, aL5, aL6, aL7⟩, hTl, hV, hLs, hLp, hTr, hHi, hcur, hhist, hhl, hms, hes, hod, hnn⟩ := J
  obtain ⟨aI1, aI2, aI3, aI4, aI5, aI6, aI7, aI8, aI9, aI10, aI11⟩ := aI
  have hbc := hbag.cls
  clear hoff
  have hci := hP.cells
  have hcz := hP.cz
  have hbn := hP.bn
  have hcab := hP.cab
  have htl3 := hTl.ca
  have hbB : g.get? P.b = none := (N (P.b, ob) (by k_mem)).2.2
  have hsvl : sv.length = hist.length := hHi.1
  have hsv0 : (0 : Int) < (sv.length : Int) := by have := List.length_pos_iff.mpr hne; omega
  have hsvz : sv.length ≤ 1000 := by omega
  have hesl : es.length = hist.length := hHi.2.1
  have hdvl : dv.length = P.many := by rw [hV.1, hcur.1]
  have hm3 := hP.many
  have hbB := hbB
  k_steps
  rename_i tl0 tk0 h1 tk1 ob1 rc tc1 k1 e1 bag1 rc0 rc1 cls1 h2 F1 N1
  clear k1 e1 hbag
  obtain ⟨q, rfl⟩ := Int.eq_ofNat_of_zero_le rc0
  have hq : (1 : Int) + (q : Int) = ((1 + q : Nat) : Int) := by omega
  rw [hq] at F1 ⊢
  obtain ⟨j, hj⟩ : ∃ j, j + (1 + q) = hist.length := ⟨hist.length - (1 + q), by omega⟩
  have hjl : j < hist.length := by omega
  obtain ⟨doms, hdoms⟩ : ∃ doms, hist[j]? = some doms := ⟨hist[j], by simp⟩
  obtain ⟨⟨l2, lv2, hsx, hls2, hlp2⟩, hv2⟩ := hHi.2.2 j doms hdoms
  refine pop_spec (d := hist.length) (j := j) C (stays_fr kk0 F1) (by k_extra "m calm") (N1.get (a := P.a) (by k_mem))
    ((in_cons (⟨(N1 (P.D, dictOf (storeEs hs ts (.ref P.dl) (.ref P.fl) (.ref P.tl) (.ref ml) (.ref nd) vsp vi vc) 8) (by k_mem)).1, (N1 (P.D, dictOf (storeEs hs ts (.ref P.dl) (.ref P.fl) (.ref P.tl) (.ref ml) (.ref nd) vsp vi vc) 8) (by k_mem)).2.2⟩) ((in_cons (⟨(N1 (P.dl, lstObj dv n1) (by k_mem)).1, (N1 (P.dl, lstObj dv n1) (by k_mem)).2.2⟩) ((in_cons (⟨(N1 (P.tl, lstObj tr n2) (by k_mem)).1, (N1 (P.tl, lstObj tr n2) (by k_mem)).2.2⟩) (List.forall_mem_nil _)))))))
    (by k_ne) (by k_ne) (by k_ne) (by simp only [List.mem_cons, List.not_mem_nil, or_false, not_or]; exact ⟨by k_ne, by k_ne, by k_ne⟩) (N1.isList (a := ml) (by k_mem)) (by simp only [List.mem_cons, List.not_mem_nil, or_false, not_or]; exact ⟨by k_ne, by k_ne, by k_ne⟩)
    (hTl.fl.list F1 N1 (by k_extra "m own")) (by simp only [List.mem_cons, List.not_mem_nil, or_false, not_or]; exact ⟨hP.fD.ne, hP.fdl.ne, hP.ftl.ne⟩) (hTl.full.at F1 N1 (by k_extra "m own")) hms (by omega) hj (by omega) (hTr.at F1 N1 (by k_extra "m own")) hesl
    (fun e he => ⟨by rw [hdvl]; exact hes e he, by have := hes e he; omega⟩) (by omega) fun h3 tk3 ml' nd' hs' ts' vsp' vi' vc' n2' k2 f1 f2 f3 f4 f5 f6 f7 f8 => ?_
  have FN := fr_upd3 F1 N1 (by k_updF) (by (try dsimp only); k_updF) (by (try dsimp only); k_updF) k2 f1 f2 f3 (by k_ne) (by k_ne) (by k_ne)
  obtain ⟨od', f5, hod2⟩ := f5
  have nml := fresh_ne N1 f6
  have nnd := fresh_ne N1 f7
  have gml := fresh_of F1 f6
  have gnd := fresh_of F1 f7
  obtain ⟨F2, N2⟩ := FN
  try dsimp only at N2
  have N3 := news_c ⟨f4, gml⟩ (news_c ⟨f5, gnd⟩ N2)
  have pml : ∀ p ∈ pn, @Ne Nat p.1 ml' := fun p hp => nml p (.tail _ (.tail _ (.tail _ (.tail _ (.tail _ (.tail _ (.tail _ (.tail _ (.tail _ (.tail _ (.tail _ (.tail _ hp))))))))))))
  have pnd : ∀ p ∈ pn, @Ne Nat p.1 nd' := fun p hp => nnd p (.tail _ (.tail _ (.tail _ (.tail _ (.tail _ (.tail _ (.tail _ (.tail _ (.tail _ (.tail _ (.tail _ (.tail _ hp))))))))))))
  have b1 : Apart P.b nd' := ⟨nnd (P.b, ob1) (by k_mem)⟩
  have b2 : Apart P.D nd' := ⟨nnd (P.D, _) (.tail _ (.tail _ (.head _)))⟩
  have b3 : Apart nd' P.Db := Apart.symm ⟨nnd (P.Db, _) (.tail _ (.tail _ (.tail _ (.tail _ (.tail _ (.tail _ (.tail _ (.tail _ (.tail _ (.tail _ (.head _)))))))))))⟩
  have b4 : Apart P.dl ml' := ⟨nml (P.dl, lstObj dv n1) (by k_mem)⟩
  have b5 : Apart P.tl ml' := ⟨nml (P.tl, lstObj tr n2) (by k_mem)⟩
  have b6 : Apart (L + 1) ml' := ⟨nml (L + 1, P.ocl) (by k_mem)⟩
  have b7 : Apart (L + 1) nd' := ⟨nnd (L + 1, P.ocl) (by k_mem)⟩
  have b8 : Apart ml' I := Apart.symm ⟨nml (I, oI) (by k_mem)⟩
  have b9 : Apart nd' I := Apart.symm ⟨nnd (I, oI) (by k_mem)⟩
  clear F1 N1 N2 nml nnd k2 f1 f2 f3 f4 f5 f6 f7 gml gnd
  have hk1 : (sv.length : Int) - ((1 + q : Nat) : Int) = (j : Int) := by omega
  have hj1 : j ≤ sv.length := by omega
  have hjf : j < 2 ^ 62 := by omega
  dsimp only
  k_steps
  rename Fr _ _ _ _ => F9
  rename News _ _ _ _ => N9
  rename_i w1 w2 w3 w4 DD w5 lDD D2 w6 lD2 w7 w8 w9
  have hAll : AllLt DD pn := by
    obtain ⟨_, _, _, _, _, _, _, _, _, _, _, _, _, _, hA⟩ := lDD
    exact hA
  refine ⟨_, _, _, _, ledOf L P ob1 hs' ts' ml' nd' vsp' vi' vc' (undo (es.drop j) dv) (tr.take j) (ms.take j) (sv.take j) n1 n2' 0 0 od' DD pn, rfl, F9, N9, (by k_extra "m perm"), (by k_extra "m perm"),
    (sep2 ((in_cons aI1.ne ((in_cons aI2.ne ((in_cons aI3.ne ((in_cons aI4.ne ((in_cons b8.ne ((in_cons b9.ne ((in_cons (Ne.symm (Nat.ne_of_lt (by k_extra "m lt"))) ((in_cons aI8.ne ((in_cons aI9.ne ((in_cons aI10.ne ((in_cons aI11.ne (fun p hp => hoff8 p hp I (by k_mem))))))))))))))))))))))))),
    jMain_of (cur := doms) (hist := hist.take j) (es := es.take j) (nn := 0) (nb := nb + 1) (ll := l2) (lv := lv2) ⟨bag1, by omega, own_in (in_cons (OwnOff.at hoff8 (by k_mem)) (in_cons (OwnOff.at hoff8 (by k_mem)) (in_cons (OwnOff.at hoff8 (by k_mem)) (in_cons (OwnOff.at hoff8 (by k_mem)) (in_cons pml (in_cons pnd (in_cons (allLt_ne hAll) (List.forall_mem_nil _)))))))), ⟨ap1, b1, ap3, b2, ap5, b3, ap7, b4, ⟨Nat.ne_of_lt (by k_extra "m lt")⟩, b5, ⟨Nat.ne_of_lt (by k_extra "m lt")⟩, ⟨Nat.ne_of_lt (by k_extra "m lt")⟩⟩, ⟨aL1, aL2, aL3, aL4, b6, b7, ⟨Nat.ne_of_lt (by k_extra "m lt")⟩⟩, hTl,
      hv2, hls2, hlp2, hTr.take, hist_take hHi (by omega), (hhist doms (List.mem_of_getElem? hdoms)).mono (by omega), fun d hd => (hhist d (List.mem_of_mem_take hd)).mono (by omega), by rw [List.length_take]; omega, ?_, fun e he => hes e (List.mem_of_mem_take he), hod2, by omega⟩ (by omega) (ov_eq _ (by k_extra "m in") (by k_extra "m out"))⟩
  · have y := hms.take j
    rw [← List.map_take, List.take_range] at y
    rw [List.length_take]; exact y

end
section
theorem off97p : True := by
  w_top off
  trivial
/-! ## the plain law -/
theorem many_cons (r : Int × Int) (rs : Rng) (lo hi : Int) : manyOf (r :: rs) lo hi = max 0 (min r.2 hi - max r.1 lo + 1) + manyOf rs lo hi := by simp [manyOf]
theorem many_app (rs qs : Rng) (lo hi : Int) : manyOf (rs ++ qs) lo hi = manyOf rs lo hi + manyOf qs lo hi := by simp [manyOf]
theorem size_cons (r : Int × Int) (rs : Rng) : sizeOf' (r :: rs) = (r.2 - r.1 + 1) + sizeOf' rs := by simp [sizeOf']
theorem good_tail {r : Int × Int} {rs : Rng} (h : Good (r :: rs)) : Good rs := ⟨fun x hx => h.1 x (.tail _ hx), (List.pairwise_cons.mp h.2).2⟩
theorem good_head {r : Int × Int} {rs : Rng} (h : Good (r :: rs)) : ∀ x ∈ rs, r.2 + 2 ≤ x.1 := (List.pairwise_cons.mp h.2).1
theorem many_zero_hi : ∀ {rs : Rng} {lo hi : Int}, (∀ r ∈ rs, hi < r.1) → manyOf rs lo hi = 0
  | [], _, _, _ => rfl
  | r :: rs, lo, hi, h => by
    rw [many_cons, many_zero_hi fun x hx => h x (.tail _ hx)]
    have := h r (.head _); omega
theorem many_zero_lo : ∀ {rs : Rng} {lo hi : Int}, (∀ r ∈ rs, r.2 < lo) → manyOf rs lo hi = 0
  | [], _, _, _ => rfl
  | r :: rs, lo, hi, h => by
    rw [many_cons, many_zero_lo fun x hx => h x (.tail _ hx)]
    have := h r (.head _); omega
theorem many_full : ∀ {rs : Rng} {lo hi : Int}, (∀ r ∈ rs, lo ≤ r.1 ∧ r.2 ≤ hi ∧ r.1 ≤ r.2) → manyOf rs lo hi = sizeOf' rs
  | [], _, _, _ => rfl
  | r :: rs, lo, hi, h => by
    rw [many_cons, size_cons, many_full fun x hx => h x (.tail _ hx)]
    have := h r (.head _); omega
theorem size_pos : ∀ {rs : Rng}, Good rs → 0 ≤ sizeOf' rs
  | [], _ => Int.le_refl _
  | r :: rs, h => by
    have := size_pos (good_tail h)
    have := h.1 r (.head _)
    rw [size_cons]; omega
theorem size_pos1 {rs : Rng} (h : Good rs) (hne : rs ≠ []) : 1 ≤ sizeOf' rs := by
  cases rs with
  | nil => exact absurd rfl hne
  | cons r rs =>
    have := size_pos (good_tail h)
    have := h.1 r (.head _)
    rw [size_cons]; omega
theorem med_go : ∀ {rs : Rng} {left : Int}, Good rs → 0 ≤ left → left < sizeOf' rs → ∃ k, medianGo rs left = some k ∧ manyOf rs k k = 1 ∧ manyOf rs (0 - 10 ^ 40) (k - 1) = left ∧ manyOf rs (k + 1) (10 ^ 40) = sizeOf' rs - 1 - left ∧ ∃ r ∈ rs, r.1 ≤ k ∧ k ≤ r.2
  | [], left, _, h0, h1 => by simp [sizeOf'] at h1; omega
  | r :: rs, left, hg, h0, h1 => by
    have hr := hg.1 r (.head _)
    have ht := good_head hg
    rw [size_cons] at h1
    by_cases c : left ≤ r.2 - r.1
    · refine ⟨r.1 + left, by rw [medianGo, if_pos c], ?_, ?_, ?_, r, .head _, by omega, by omega⟩
      · rw [many_cons, many_zero_hi fun x hx => by have := ht x hx; omega]; omega
      · rw [many_cons, many_zero_hi fun x hx => by have := ht x hx; omega]; omega
      · rw [many_cons, size_cons, many_full fun x hx => ⟨by have := ht x hx; omega, by have := hg.1 x (.tail _ hx); omega, (hg.1 x (.tail _ hx)).1⟩]; omega
    · obtain ⟨k, e, a1, a2, a3, x, hx, b1, b2⟩ := med_go (left := left - (r.2 - r.1 + 1)) (good_tail hg) (by omega) (by omega)
      have hxx := ht x hx
      refine ⟨k, by rw [medianGo, if_neg c]; exact e, ?_, ?_, ?_, x, .tail _ hx, b1, b2⟩
      · rw [many_cons, a1]; omega
      · rw [many_cons, a2]; omega
      · rw [many_cons, size_cons, a3]; omega
theorem med_facts {rs : Rng} (h : Good rs) (hne : rs ≠ []) : manyOf rs (medianOf rs) (medianOf rs) = 1 ∧ (manyOf rs (medianOf rs + 1) (10 ^ 40) - manyOf rs (0 - 10 ^ 40) (medianOf rs - 1) = 0 ∨ manyOf rs (medianOf rs + 1) (10 ^ 40) - manyOf rs (0 - 10 ^ 40) (medianOf rs - 1) = 1) := by
  have h1 := size_pos1 h hne
  have e : Int.fdiv (sizeOf' rs - 1) 2 = (sizeOf' rs - 1) / 2 := Int.fdiv_eq_ediv_of_nonneg _ (by omega)
  obtain ⟨k, ek, a1, a2, a3, _⟩ := med_go (left := Int.fdiv (sizeOf' rs - 1) 2) h (by rw [e]; omega) (by rw [e]; omega)
  have em : medianOf rs = k := by rw [medianOf, ek]; rfl
  rw [em, a1, a2, a3, e]
  exact ⟨rfl, by omega⟩
theorem half_median {rs : Rng} (h : Good rs) (hne : rs ≠ []) : halfOf rs (medianOf rs) = true := by
  rw [halfOf, decide_eq_true_eq]; exact med_facts h hne
theorem fm_congr {α β : Type} {f f' : α → Option β} : ∀ {l : List α}, (∀ x ∈ l, f x = f' x) → l.filterMap f = l.filterMap f'
  | [], _ => rfl
  | x :: l, h => by rw [List.filterMap_cons, List.filterMap_cons, h x (.head _), fm_congr fun y hy => h y (.tail _ hy)]
theorem between_lo {rs : Rng} {k : Int} (h : Good rs) : betweenOf rs (0 - 10 ^ 40) k = upTo rs k := by
  refine fm_congr fun r hr => ?_
  have := h.1 r hr
  by_cases c : r.1 ≤ k
  · rw [if_pos ⟨c, by omega⟩, if_pos c, Int.max_eq_left (by omega)]
  · rw [if_neg (fun q => c q.1), if_neg c]
theorem between_hi {rs : Rng} {k : Int} (h : Good rs) : betweenOf rs k (10 ^ 40) = fromOn rs k := by
  refine fm_congr fun r hr => ?_
  have := h.1 r hr
  by_cases c : k ≤ r.2
  · rw [if_pos ⟨by omega, c⟩, if_pos c, Int.min_eq_left (by omega)]
  · rw [if_neg (fun q => c q.2), if_neg c]
theorem mem_upTo {rs : Rng} {k : Int} {x : Int × Int} (h : x ∈ upTo rs k) : ∃ r ∈ rs, r.1 ≤ k ∧ x = (r.1, min r.2 k) := by
  obtain ⟨r, hr, e⟩ := List.mem_filterMap.mp h
  by_cases c : r.1 ≤ k
  · rw [if_pos c] at e; exact ⟨r, hr, c, (Option.some.inj e).symm⟩
  · rw [if_neg c] at e; cases e
theorem mem_fromOn {rs : Rng} {k : Int} {x : Int × Int} (h : x ∈ fromOn rs k) : ∃ r ∈ rs, k ≤ r.2 ∧ x = (max r.1 k, r.2) := by
  obtain ⟨r, hr, e⟩ := List.mem_filterMap.mp h
  by_cases c : k ≤ r.2
  · rw [if_pos c] at e; exact ⟨r, hr, c, (Option.some.inj e).symm⟩
  · rw [if_neg c] at e; cases e
theorem good_upTo {rs : Rng} {k : Int} (h : Good rs) : Good (upTo rs k) := by
  refine ⟨fun x hx => ?_, List.Pairwise.filterMap _ (fun a a' hr b hb b' hb' => ?_) h.2⟩
  · obtain ⟨r, hr, c, rfl⟩ := mem_upTo hx
    have := h.1 r hr
    exact ⟨by show r.1 ≤ min r.2 k; omega, this.2.1, by show min r.2 k ≤ 10 ^ 35; omega⟩
  · split at hb <;> simp at hb
    split at hb' <;> simp at hb'
    subst hb; subst hb'
    show min a.2 k + 2 ≤ a'.1
    omega
theorem good_fromOn {rs : Rng} {k : Int} (h : Good rs) : Good (fromOn rs k) := by
  refine ⟨fun x hx => ?_, List.Pairwise.filterMap _ (fun a a' hr b hb b' hb' => ?_) h.2⟩
  · obtain ⟨r, hr, c, rfl⟩ := mem_fromOn hx
    have := h.1 r hr
    exact ⟨by show max r.1 k ≤ r.2; omega, by show -(10 ^ 35) ≤ max r.1 k; omega, this.2.2⟩
  · split at hb <;> simp at hb
    split at hb' <;> simp at hb'
    subst hb; subst hb'
    show a.2 + 2 ≤ max a'.1 k
    omega
theorem good_without {rs : Rng} {k : Int} (h : Good rs) : Good (without rs k) := by
  have h1 := good_upTo (k := k - 1) h
  have h2 := good_fromOn (k := k + 1) h
  refine ⟨fun x hx => ?_, List.pairwise_append.mpr ⟨h1.2, h2.2, fun a ha b hb => ?_⟩⟩
  · rcases List.mem_append.mp hx with hx | hx
    · exact h1.1 x hx
    · exact h2.1 x hx
  · obtain ⟨r, _, c, rfl⟩ := mem_upTo ha
    obtain ⟨r', _, c', rfl⟩ := mem_fromOn hb
    show min r.2 (k - 1) + 2 ≤ max r'.1 (k + 1)
    omega
theorem upTo_length (rs : Rng) (k : Int) : (upTo rs k).length ≤ rs.length := List.length_filterMap_le _ _
theorem fromOn_length (rs : Rng) (k : Int) : (fromOn rs k).length ≤ rs.length := List.length_filterMap_le _ _
theorem upTo_nil {rs : Rng} {k : Int} (h : ∀ r ∈ rs, k < r.1) : upTo rs k = [] := by
  refine List.filterMap_eq_nil_iff.mpr fun r hr => ?_
  rw [if_neg (by have := h r hr; omega)]
theorem without_length : ∀ {rs : Rng} {k : Int}, Good rs → (without rs k).length ≤ rs.length + 1
  | [], _, _ => by simp [without, upTo, fromOn]
  | r :: rs, k, h => by
    have ih := without_length (k := k) (good_tail h)
    have ht := good_head h
    rw [without, List.length_append] at ih ⊢
    have hf := fromOn_length rs (k + 1)
    by_cases c1 : r.1 ≤ k - 1
    · by_cases c2 : k + 1 ≤ r.2
      · have e := upTo_nil (rs := rs) (k := k - 1) fun x hx => by have := ht x hx; omega
        simp only [upTo, fromOn, List.filterMap_cons, if_pos c1, if_pos c2, List.length_cons] at *
        rw [e]; simp only [List.length_nil]; omega
      · simp only [upTo, fromOn, List.filterMap_cons, if_pos c1, if_neg c2, List.length_cons] at *
        omega
    · by_cases c2 : k + 1 ≤ r.2
      · simp only [upTo, fromOn, List.filterMap_cons, if_neg c1, if_pos c2, List.length_cons] at *
        omega
      · simp only [upTo, fromOn, List.filterMap_cons, if_neg c1, if_neg c2, List.length_cons] at *
        omega
theorem many_upTo (rs : Rng) (k hi : Int) : manyOf (upTo rs (k - 1)) k hi = 0 := many_zero_lo fun x hx => by
  obtain ⟨r, _, c, rfl⟩ := mem_upTo hx
  show min r.2 (k - 1) < k
  omega
theorem many_fromOn (rs : Rng) (k lo : Int) : manyOf (fromOn rs (k + 1)) lo k = 0 := many_zero_hi fun x hx => by
  obtain ⟨r, _, c, rfl⟩ := mem_fromOn hx
  show k < max r.1 (k + 1)
  omega
theorem upTo_ne {rs : Rng} (h : Good rs) (hne : rs ≠ []) : upTo rs (medianOf rs - 1) ≠ rs := fun e => by
  have h1 := (med_facts h hne).1
  have h2 := many_upTo rs (medianOf rs) (medianOf rs)
  rw [e, h1] at h2; omega
theorem fromOn_ne {rs : Rng} (h : Good rs) (hne : rs ≠ []) : fromOn rs (medianOf rs + 1) ≠ rs := fun e => by
  have h1 := (med_facts h hne).1
  have h2 := many_fromOn rs (medianOf rs) (medianOf rs)
  rw [e, h1] at h2; omega
theorem without_ne {rs : Rng} (h : Good rs) (hne : rs ≠ []) : without rs (medianOf rs) ≠ rs := fun e => by
  have h1 := (med_facts h hne).1
  have h2 : manyOf (without rs (medianOf rs)) (medianOf rs) (medianOf rs) = 0 := by rw [without, many_app, many_upTo, many_fromOn]; rfl
  rw [e, h1] at h2; omega
theorem full_size {rs : Rng} (h : Good rs) : manyOf rs (0 - 10 ^ 40) (10 ^ 40) = sizeOf' rs := many_full fun r hr => by
  have := h.1 r hr
  exact ⟨by omega, by omega, this.1⟩
theorem fixed_size {rs : Rng} (h : Good rs) (hne : rs ≠ []) : fixedOf rs = true ↔ ¬ 1 < sizeOf' rs := by
  cases rs with
  | nil => exact absurd rfl hne
  | cons r rs =>
    have hr := h.1 r (.head _)
    cases rs with
    | nil =>
      rw [size_cons]
      simp only [fixedOf, sizeOf', List.map_nil, List.sum_nil]
      simp
      omega
    | cons q rs =>
      have hq := h.1 q (.tail _ (.head _))
      have := size_pos (good_tail (good_tail h))
      rw [size_cons, size_cons]
      simp only [fixedOf]
      simp
      omega
theorem key_rank {o : Nat} {r1 r2 : Rng} {d1 d2 : Int} (g1 : Good r1) (g2 : Good r2) (ho : o < 5) : (if keyOf o r1 d1 = keyOf o r2 d2 then false else keyLt (keyOf o r1 d1) (keyOf o r2 d2)) = lexLt (rankOf o r1 d1) (rankOf o r2 d2) := by
  have c5 : o = 0 ∨ o = 1 ∨ o = 2 ∨ o = 3 ∨ o = 4 := by omega
  rcases c5 with rfl | rfl | rfl | rfl | rfl
  · simp [keyOf, rankOf, lexLt]
  · simp only [keyOf, rankOf, full_size g1, full_size g2]
    simp [keyLt, lexOf, lexLt]
    omega
  · simp only [keyOf, rankOf]
    simp [keyLt, lexOf, lexLt]
    omega
  · simp only [keyOf, rankOf]
    simp [keyLt, lexOf, lexLt]
    omega
  · simp only [keyOf, rankOf, full_size g1, full_size g2]
    simp [keyLt, lexOf, lexLt, List.range_succ]
    by_cases c : sizeOf' r1 = sizeOf' r2
    · simp [c]; omega
    · simp [c]
theorem argBest_congr {bt bt' : Nat → Nat → Bool} : ∀ (k : Nat), (∀ i j, i ≤ k → j ≤ k → bt i j = bt' i j) → argBest bt k = argBest bt' k ∧ argBest bt k ≤ k
  | 0, _ => ⟨rfl, Nat.le_refl _⟩
  | k + 1, h => by
    obtain ⟨a, b⟩ := argBest_congr k fun i j hi hj => h i j (by omega) (by omega)
    rw [argBest, argBest, ← a, h (k + 1) (argBest bt k) (Nat.le_refl _) (by omega)]
    refine ⟨rfl, ?_⟩
    split <;> omega
theorem candLt_eq {c d : Cand} (h : d.2.1 < c.2.1) : candLt c d = (if c.1 = d.1 then false else keyLt c.1 d.1) := by
  unfold candLt
  simp only [lexOf]
  by_cases e : c.1 = d.1
  · have h1 : ((c.2.1 : Int) == d.2.1) = false := by rw [beq_eq_false_iff_ne]; omega
    have h2 : decide ((c.2.1 : Int) < d.2.1) = false := by rw [decide_eq_false_iff_not]; omega
    simp [e, h1, h2]
    omega
  · simp [e]
noncomputable def BestAt (doms : List Rng) (o : Nat) (deg : Nat → Int) (l : List Nat) : Prop :=
  (candsOf doms o deg l = [] ∧ l.foldl (nextStep doms o deg) (-1, (0, 0)) = (-1, (0, 0))) ∨
  ∃ c, candsOf doms o deg l ≠ [] ∧ (candsOf doms o deg l)[argBest (candBt (candsOf doms o deg l)) ((candsOf doms o deg l).length - 1)]? = some c ∧ c.2.2 ∈ l ∧ c.1 = keyOf o (doms.getD c.2.2 []) (deg c.2.2) ∧
    l.foldl (nextStep doms o deg) (-1, (0, 0)) = ((c.2.2 : Int), rankOf o (doms.getD c.2.2 []) (deg c.2.2))
theorem cands_place {doms : List Rng} {o : Nat} {deg : Nat → Int} {l : List Nat} {c : Cand} (h : c ∈ candsOf doms o deg l) : c.2.1 < l.length := by
  obtain ⟨p, hp, hc⟩ := List.mem_flatMap.mp h
  unfold candOf at hc
  split at hc
  · rw [List.mem_singleton.mp hc]
    obtain ⟨x, i⟩ := p
    have := (List.mem_zipIdx hp).2.1
    simpa using this
  · cases hc
theorem snoc_ind {α : Type} {P : List α → Prop} (h0 : P []) (h1 : ∀ l x, P l → P (l ++ [x])) (l : List α) : P l := by
  have : ∀ r : List α, P r.reverse := by
    intro r
    induction r with
    | nil => exact h0
    | cons x r ih => rw [List.reverse_cons]; exact h1 _ _ ih
  have h := this l.reverse
  rwa [List.reverse_reverse] at h
theorem best_at {doms : List Rng} {o : Nat} {deg : Nat → Int} (hg : ∀ rs ∈ doms, Good rs ∧ rs ≠ []) (ho : o < 5) (l : List Nat) : (∀ x ∈ l, x < doms.length) → BestAt doms o deg l := by
  refine snoc_ind (P := fun l => (∀ x ∈ l, x < doms.length) → BestAt doms o deg l) (fun _ => .inl ⟨rfl, rfl⟩) (fun l x ih hl => ?_) l
  have hx : x < doms.length := hl x (by simp)
  have hmem : doms.getD x [] ∈ doms := by
    rw [List.getD_eq_getElem?_getD, List.getElem?_eq_getElem hx]; exact List.getElem_mem hx
  obtain ⟨gx, nx⟩ := hg _ hmem
  have hf := fixed_size gx nx
  have hfold : (l ++ [x]).foldl (nextStep doms o deg) (-1, (0, 0)) = nextStep doms o deg (l.foldl (nextStep doms o deg) (-1, (0, 0))) x := by simp
  have ih := ih fun y hy => hl y (by simp [hy])
  unfold BestAt
  rw [hfold, candsOf_snoc]
  by_cases c1 : 1 < sizeOf' (doms.getD x [])
  · have hcand : candOf doms o deg l.length x = [(keyOf o (doms.getD x []) (deg x), l.length, x)] := by rw [candOf, if_pos (by rw [full_size gx]; exact c1)]
    have hnf : ¬ fixedOf (doms.getD x []) = true := fun q => (hf.mp q) c1
    rw [hcand]
    right
    rcases ih with ⟨e1, e2⟩ | ⟨c, e1, e2, e3, e4, e5⟩
    · rw [e1, e2]
      refine ⟨(keyOf o (doms.getD x []) (deg x), l.length, x), by simp, by simp [argBest], by simp, rfl, ?_⟩
      rw [nextStep, if_neg hnf, if_pos (.inl (by decide))]
    · have hlen : 0 < (candsOf doms o deg l).length := List.length_pos_iff.mpr e1
      have hagree : ∀ i j, i ≤ (candsOf doms o deg l).length - 1 → j ≤ (candsOf doms o deg l).length - 1 → candBt (candsOf doms o deg l ++ [(keyOf o (doms.getD x []) (deg x), l.length, x)]) i j = candBt (candsOf doms o deg l) i j := fun i j hi hj => by
        unfold candBt
        simp only [List.getD_eq_getElem?_getD]
        rw [List.getElem?_append_left (by omega), List.getElem?_append_left (by omega)]
      obtain ⟨ha, hb⟩ := argBest_congr _ hagree
      rw [ha] at hb
      generalize hbi : argBest (candBt (candsOf doms o deg l)) ((candsOf doms o deg l).length - 1) = bi at *
      have hcm : c ∈ candsOf doms o deg l := List.mem_of_getElem? e2
      have hpl := cands_place hcm
      have hll : (candsOf doms o deg l ++ [(keyOf o (doms.getD x []) (deg x), l.length, x)]).length - 1 = ((candsOf doms o deg l).length - 1) + 1 := by
        rw [List.length_append, List.length_singleton]; omega
      have hcx : c.2.2 < doms.length := hl _ (by simp [e3])
      have hcmem : doms.getD c.2.2 [] ∈ doms := by
        rw [List.getD_eq_getElem?_getD, List.getElem?_eq_getElem hcx]; exact List.getElem_mem hcx
      have hbt : candBt (candsOf doms o deg l ++ [(keyOf o (doms.getD x []) (deg x), l.length, x)]) ((candsOf doms o deg l).length - 1 + 1) bi = lexLt (rankOf o (doms.getD x []) (deg x)) (rankOf o (doms.getD c.2.2 []) (deg c.2.2)) := by
        unfold candBt
        simp only [List.getD_eq_getElem?_getD]
        rw [List.getElem?_append_right (by omega), List.getElem?_append_left (by omega)]
        have i0 : (candsOf doms o deg l).length - 1 + 1 - (candsOf doms o deg l).length = 0 := by omega
        rw [i0, e2]
        simp only [List.getElem?_cons_zero, Option.getD_some]
        rw [candLt_eq hpl, e4]
        exact key_rank gx (hg _ hcmem).1 ho
      rw [hll, argBest, ha, hbt, e5]
      by_cases cl : lexLt (rankOf o (doms.getD x []) (deg x)) (rankOf o (doms.getD c.2.2 []) (deg c.2.2)) = true
      · rw [if_pos cl]
        refine ⟨(keyOf o (doms.getD x []) (deg x), l.length, x), by simp, ?_, by simp, rfl, ?_⟩
        · rw [List.getElem?_append_right (by omega), show (candsOf doms o deg l).length - 1 + 1 - (candsOf doms o deg l).length = 0 by omega]; rfl
        · rw [nextStep, if_neg hnf, if_pos (.inr cl)]
      · rw [if_neg cl]
        refine ⟨c, by simp, ?_, by simp [e3], e4, ?_⟩
        · rw [List.getElem?_append_left (by omega)]; exact e2
        · rw [nextStep, if_neg hnf, if_neg (fun q => by
            rcases q with q | q
            · simp only at q; omega
            · exact cl q)]
  · have hcand : candOf doms o deg l.length x = [] := by rw [candOf, if_neg (by rw [full_size gx]; exact c1)]
    have hfx : fixedOf (doms.getD x []) = true := hf.mpr c1
    rw [hcand, List.append_nil, nextStep, if_pos hfx]
    rcases ih with ih | ⟨c, e1, e2, e3, e4, e5⟩
    · exact .inl ih
    · exact .inr ⟨c, e1, e2, by simp [e3], e4, e5⟩
theorem wanted_next {doms : List Rng} {o : Nat} {deg : Nat → Int} {row : List Nat} (h : ∀ rs ∈ doms, Good rs ∧ rs ≠ []) (hin : ∀ x ∈ row, x < doms.length) (ho : o < 5) :
    (wantedOf doms o deg row = none ∧ nextOf doms o deg row = -1) ∨ ∃ x : Nat, wantedOf doms o deg row = some x ∧ nextOf doms o deg row = (x : Int) ∧ x < doms.length := by
  rcases best_at (deg := deg) h ho row hin with ⟨e1, e2⟩ | ⟨c, e1, e2, e3, e4, e5⟩
  · left
    exact ⟨by simp only [wantedOf, if_pos e1], by rw [nextOf, e2]⟩
  · right
    refine ⟨c.2.2, ?_, by rw [nextOf, e5], hin _ e3⟩
    simp only [wantedOf, if_neg e1]
    rw [List.getD_eq_getElem?_getD, e2]; rfl

end
section
theorem off98 : True := by
  w_top off
  trivial
theorem own98_1 : True := by
  k_with "execs cons" => ((with_reducible show wpAny _ _ (execs (PySem.Stmt.Expr (PySem.Expr.Call (PySem.Expr.Attribute (PySem.Expr.Name (PySem.Str.ofString "desk") _) (PySem.Str.ofString "push") _) _ _ _) _ :: _) _) _ _ _); refine halt ?_)
  k_with "execs cons" => ((with_reducible show wpAny _ _ (execs (PySem.Stmt.Assign [PySem.Expr.Name (PySem.Str.ofString "deep") _] _ _ :: _) _) _ _ _); refine halt ?_)
  trivial
theorem pick_tup {g h : Heap} {L T : Addr} {news : List (Addr × Obj)} {x k : Int} {c : PySem.Str} {t1 t2 t3 : Tok} (N : News g L h news) (hm : (T, tupObj [.int x t1, .str c t2, .int k t3]) ∈ news) :
    ∃ o ta tb tc, (T, o) ∈ news ∧ h.get? T = some o ∧ o.cls = .type "tuple" ∧ o.data = .seq #[.int x ta, .str c tb, .int k tc] := ⟨_, t1, t2, t3, hm, (N _ hm).1, rfl, rfl⟩
theorem mem78 {a b c d e f k i x : Addr} (h : x ∈ [a, b, c, d, e, f, k]) : x ∈ [a, b, c, d, e, f, k, i] := by
  simp only [List.mem_cons, List.not_mem_nil, or_false] at h ⊢
  rcases h with h | h | h | h | h | h | h <;> simp [h]
theorem jf_up {w : World} {g : Heap} {L : Addr} {P : Fx} {i : Nat} {ob : Obj} {ml nd sl ll : Addr} {dv tr ms sv lv : List Value} {od : Obj} {nn : Nat} {cur : List Rng} {hist : List (List Rng)} {es : List (Nat × Value)} {pn : List (Addr × Obj)} {nb : Nat} (j : JF w g L P i ob ml nd sl ll dv tr ms sv lv od nn cur hist es pn nb) : JF w g L P (i + 1) ob ml nd sl ll dv tr ms sv lv od nn cur hist es pn nb :=
  ⟨j.bag, by have := j.hnb; omega, j.off, j.ap, j.aL, j.tl, j.v, j.ls, j.lp, j.ftr, j.hi, j.fcur.mono (by omega), fun d hd => (j.fhist d hd).mono (by omega), by have := j.fhl; omega, j.fms, j.fes, j.fod, by have := j.fnn; omega⟩
theorem off_tup {h : Heap} {T : Addr} {o : Obj} {S : List Addr} (e : h.get? T = some o) (c : o.cls = .type "tuple") (nt : NotTup h S) : ∀ b ∈ S, T ≠ b := fun b hb q => by
  obtain ⟨o', e', c'⟩ := nt b hb
  rw [← q, e] at e'; cases e'
  exact c' c
set_option pp.deepTerms false
set_option pp.deepTerms.threshold 4
theorem law_turn {w : World} {mean : ExcName → Option Value} {mg mb : PySem.Str → Option Value} {s₁ : Shared} {g : Heap} {fa : Addr} {cd : Value} {L : Addr} {Q : Flow → Shared → Prop} {E' : Value → Shared → Prop} {P : Fx} {i : Nat} {h : Heap} {tk I : Nat} {oI : Obj} {ti : Tok} {ob : Obj} {ml nd sl ll : Addr} {dv tr ms sv lv : List Value} {od : Obj} {nn : Nat} {cur : List Rng} {hist : List (List Rng)} {es : List (Nat × Value)} {pn : List (Addr × Obj)} {nb : Nat}
    {hs : Nat → Int} {ts : Nat → Tok} {vsp vi vc : Value} {n1 n2 n3 n4 : Nat} {u1 u2 u3 u4 u5 u6 u7 u8 u9 u10 : Option Value}
    (C : Core w mean mg mb g) (hA : Calm (callerA.deeper (lawEnv L fa cd)) 20) (hoc : P.ocl.data = .cell (some (.ref P.b))) (hP : Plain P) (hi : i < 8) (J : JF w g L P i ob ml nd sl ll dv tr ms sv lv od nn cur hist es pn nb) (hnb : nb ≤ 500 + 10 * i)
    (F5 : Fr g L h (fun z => if z = Str.ofString "lap" then some (.int (i : Int) ti) else ov (mapOf P ll sl u1 u2 u3 u4 u5 u6 u7 u8 u9 u10) P.m0 z)) (N5 : News g L h ((I, oI) :: ledOf L P ob hs ts ml nd vsp vi vc dv tr ms sv n1 n2 n3 n4 od sl pn))
    (hne5 : ∀ p ∈ ledOf L P ob hs ts ml nd vsp vi vc dv tr ms sv n1 n2 n3 n4 od sl pn, @Ne Nat p.1 I) (hoI : oI.cls ≠ .type "tuple") :
    wpAny (model PR w) (callerA.deeper (lawEnv L fa cd)) (execs (loopBody (lawBody.getD 8 default)) (lawEnv L fa cd)) (ForPost g L [(I, oI)] (JMain w g L P (i + 1)) s₁ Q) E' { s₁ with heap := h, toks := tk } := by
  dsimp only [mapOf, ledOf] at F5 N5 hne5
  obtain ⟨hbag, hnb9, hoff, ⟨ap1, ap2, ap3, ap4, ap5, ap6, ap7, ap8, ap9, ap10, ap11, ap12⟩, ⟨aL1, aL2, aL3, aL4, aL5, aL6, aL7⟩, hTl, hV, hLs, hLp, hTr, hHi, hcur, hhist, hhl, hms, hes, hod, hnn⟩ := J
  clear hnb9
  have X := C.X
  have T := C.T
  have kk : Stays g g := fun _ _ e => e
  k_extra "m fill"
  conv => arg 3; arg 1; whnf
  obtain ⟨sc, hsc⟩ : ∃ sc, sc = lawScope := ⟨_, rfl⟩
  have hA0 := hA
  simp only [lawEnv, ← hsc] at hA ⊢
  conv at hsc => rhs; whnf
  subst hsc
  try k_fold
  have hbc := hbag.cls
  have aI1 : Apart P.b I := ⟨hne5 _ (.head _)⟩
  have aI2 : Apart P.D I := ⟨hne5 (P.D, _) (.tail _ (.head _))⟩
  have aI3 : Apart P.dl I := ⟨hne5 (P.dl, _) (.tail _ (.tail _ (.head _)))⟩
  have aI4 : Apart P.tl I := ⟨hne5 (P.tl, _) (.tail _ (.tail _ (.tail _ (.head _))))⟩
  have aI5 : Apart ml I := ⟨hne5 (ml, _) (.tail _ (.tail _ (.tail _ (.tail _ (.head _)))))⟩
  have aI6 : Apart nd I := ⟨hne5 (nd, _) (.tail _ (.tail _ (.tail _ (.tail _ (.tail _ (.head _))))))⟩
  have aI7 : Apart sl I := ⟨hne5 (sl, _) (.tail _ (.tail _ (.tail _ (.tail _ (.tail _ (.tail _ (.head _)))))))⟩
  have aI8 : Apart P.a I := ⟨hne5 (P.a, _) (.tail _ (.tail _ (.tail _ (.tail _ (.tail _ (.tail _ (.tail _ (.head _))))))))⟩
  have aI9 : Apart P.br I := ⟨hne5 (P.br, _) (.tail _ (.tail _ (.tail _ (.tail _ (.tail _ (.tail _ (.tail _ (.tail _ (.head _)))))))))⟩
  have aI10 : Apart P.Db I := ⟨hne5 (P.Db, _) (.tail _ (.tail _ (.tail _ (.tail _ (.tail _ (.tail _ (.tail _ (.tail _ (.tail _ (.head _))))))))))⟩
  have aI11 : Apart (L + 1) I := ⟨hne5 (L + 1, P.ocl) (.tail _ (.tail _ (.tail _ (.tail _ (.tail _ (.tail _ (.tail _ (.tail _ (.tail _ (.tail _ (.head _)))))))))))⟩
  have hbB : g.get? P.b = none := (N5 (P.b, ob) (by k_mem)).2.2
  have htl1 := hTl.rl
  have htl2 := hTl.gl
  have htl3 := hTl.ca
  have htl4 := hTl.fl
  have ho5 := hP.o5
  have hrow := hP.row
  have hrz := hP.rz
  have hci := hP.cells
  have hcz := hP.cz
  have hdgn := hP.dgn
  have hbn := hP.bn
  have hcab := hP.cab
  have hm0 := hP.many0
  have hm3 := hP.many
  have hcl : cur.length = P.many := hcur.1
  have hrin : ∀ x ∈ P.row, x < cur.length := by rw [hcl]; exact hP.rin
  have hdgv : IntsAre P.dgv ((List.range cur.length).map P.deg) := by rw [hcl]; exact hP.dgv
  have hdgs : DegsAt P.f P.deg cur.length := by rw [hcl]; exact hP.dgs
  have hcz1 : cur.length ≤ 1000 := by omega
  have hhalf : ∀ (x : Nat) rs, cur[x]? = some rs → halfOf rs (medianOf rs) = true := fun x rs e => half_median (hcur.2 rs (List.mem_of_getElem? e)).1 (hcur.2 rs (List.mem_of_getElem? e)).2.1
  have hwn := wanted_next (o := P.o) (deg := P.deg) (fun rs hr => ⟨(hcur.2 rs hr).1, (hcur.2 rs hr).2.1⟩) hrin ho5
  have hmp : (0 : Int) < (P.many : Int) := by omega
  have htrz : tr.length ≤ 1000 := by rw [hTr.1, hHi.2.1]; omega
  have hoff8 : OwnOff pn [P.b, P.D, P.dl, P.tl, ml, nd, sl, I] := own_snoc hoff fun p hp => hne5 p (.tail _ (.tail _ (.tail _ (.tail _ (.tail _ (.tail _ (.tail _ (.tail _ (.tail _ (.tail _ (.tail _ hp)))))))))))
  clear hoff hne5
  k_steps
  rename_i h1a tk1a oc1 wy twy k1a e1a bg1 wy0 wy1 h2a tk2a oc2 xx txx k2a e2a bg2 xx0 xx1 cls2 tmk tk3a tp h3a lt3 h3b h3c h3d h3e F3 N3
  obtain ⟨x, rfl⟩ := Int.eq_ofNat_of_zero_le xx0
  clear e1a k1a e2a k2a bg1
  have hx : x < P.many := by omega
  have hxc : x < cur.length := by omega
  have hxf : x < 2 ^ 62 := by omega
  have hdx : cur[x]? = some (cur.getD x []) := by rw [List.getD_eq_getElem?_getD, List.getElem?_eq_getElem hxc]; rfl
  obtain ⟨rs, hrs⟩ : ∃ rs, rs = cur.getD x [] := ⟨_, rfl⟩
  rw [← hrs] at hdx
  obtain ⟨hgx, hnx, hzx⟩ := hcur.2 _ (List.mem_of_getElem? hdx)
  obtain ⟨dd, ditems, hvd, hid, hdn, hdz⟩ := hV.2 x _ hdx
  obtain ⟨le, litems, hve, hie, _, _⟩ := hLp.2 x _ hdx
  have hzx1 : rs.length ≤ 1000 := by omega
  k_steps
  rename Fr _ _ _ _ => F4
  rename News _ _ _ _ => N4
  have nt4 : NotTup _ [P.b, P.D, P.dl, P.tl, ml, nd, sl, I] := newsNotTup N4 (by k_extra "m nt")
  refine between_new C (stays_fr kk F4) (by k_extra "m calm") (hie.list F4 N4 (by k_extra "m own")) (hie.prs F4 N4 (by k_extra "m own")) hzx1 fun hh4 tkh4 b4 bi4 bv4 ks4 e04 e14 pr4 => ?_
  have Fn4 := Fr.keeps F4 ks4
  have Nn4 := News.grown N4 ks4
  have fr4 := fresh_of F4 e04
  have fo4 := fresh_off e04 nt4
  clear F4 N4 nt4
  have nt4 : NotTup hh4 [P.b, P.D, P.dl, P.tl, ml, nd, sl, I] := newsNotTup Nn4 (by k_extra "m nt")
  obtain ⟨pp4, Nm4, off4, lin4⟩ := absorbL Fn4 Nn4 e14 fr4.1 fr4.2 pr4 _ nt4 fo4
  clear Nn4 nt4 fr4 fo4 e04 e14 ks4 pr4
  simp only [List.cons_append] at Nm4
  obtain ⟨pq4, hpq4⟩ : ∃ pq, pq = pn ++ pp4 := ⟨_, rfl⟩
  rw [← hpq4] at Nm4
  have hsub : ∀ p ∈ pn, p ∈ pq4 := fun p hp => hpq4 ▸ List.mem_append_left _ hp
  replace hoff8 : OwnOff pq4 [P.b, P.D, P.dl, P.tl, ml, nd, sl, I] := hpq4 ▸ OwnOff.app hoff8 off4
  replace lin4 := lin4.more (fun p hp => hpq4 ▸ List.mem_append_right _ hp : ∀ p ∈ pp4, p ∈ pq4)
  replace hTl := hTl.more hsub
  replace hV := hV.more hsub
  replace hLs := hLs.more hsub
  replace hLp := hLp.more hsub
  replace hTr := hTr.more hsub
  replace hHi := hHi.more hsub
  replace hid := hid.more hsub
  replace hie := hie.more hsub
  replace htl1 := htl1.more hsub
  replace htl2 := htl2.more hsub
  replace htl3 := htl3.more hsub
  replace htl4 := htl4.more hsub
  clear hsub hpq4 off4
  dsimp only
  k_steps
  rename Fr _ _ _ _ => F5
  rename News _ _ _ _ => N5
  have nt5 : NotTup _ [P.b, P.D, P.dl, P.tl, ml, nd, sl, I] := newsNotTup N5 (by k_extra "m nt")
  refine between_new C (stays_fr kk F5) (by k_extra "m calm") (hie.list F5 N5 (by k_extra "m own")) (hie.prs F5 N5 (by k_extra "m own")) hzx1 fun hh5 tkh5 b5 bi5 bv5 ks5 e05 e15 pr5 => ?_
  have Fn5 := Fr.keeps F5 ks5
  have Nn5 := News.grown N5 ks5
  have fr5 := fresh_of F5 e05
  have fo5 := fresh_off e05 nt5
  clear F5 N5 nt5
  have nt5 : NotTup hh5 [P.b, P.D, P.dl, P.tl, ml, nd, sl, I] := newsNotTup Nn5 (by k_extra "m nt")
  obtain ⟨pp5, Nm5, off5, lin5⟩ := absorbL Fn5 Nn5 e15 fr5.1 fr5.2 pr5 _ nt5 fo5
  clear Nn5 nt5 fr5 fo5 e05 e15 ks5 pr5
  simp only [List.cons_append] at Nm5
  obtain ⟨pq5, hpq5⟩ : ∃ pq, pq = pq4 ++ pp5 := ⟨_, rfl⟩
  rw [← hpq5] at Nm5
  have hsub : ∀ p ∈ pq4, p ∈ pq5 := fun p hp => hpq5 ▸ List.mem_append_left _ hp
  replace hoff8 : OwnOff pq5 [P.b, P.D, P.dl, P.tl, ml, nd, sl, I] := hpq5 ▸ OwnOff.app hoff8 off5
  replace lin5 := lin5.more (fun p hp => hpq5 ▸ List.mem_append_right _ hp : ∀ p ∈ pp5, p ∈ pq5)
  replace hTl := hTl.more hsub
  replace hV := hV.more hsub
  replace hLs := hLs.more hsub
  replace hLp := hLp.more hsub
  replace hTr := hTr.more hsub
  replace hHi := hHi.more hsub
  replace hid := hid.more hsub
  replace hie := hie.more hsub
  replace htl1 := htl1.more hsub
  replace htl2 := htl2.more hsub
  replace htl3 := htl3.more hsub
  replace htl4 := htl4.more hsub
  replace lin4 := lin4.more hsub
  clear hsub hpq5 off5
  dsimp only
  k_steps
  have hb4l : bi4.length ≤ rs.length := by
    rename News _ _ _ _ => Nx
    rename Fr _ _ _ _ => Fx'
    rw [(lin4.prs Fx' Nx (by k_extra "m own")).length]; exact List.length_filterMap_le _ _
  have hb5l : bi5.length ≤ rs.length := by
    rename News _ _ _ _ => Nx
    rename Fr _ _ _ _ => Fx'
    rw [(lin5.prs Fx' Nx (by k_extra "m own")).length]; exact List.length_filterMap_le _ _
  have hbz : bi4.length + bi5.length ≤ 1000 := by omega
  rename_i tq hA1 lA hB1 hC1 hD1 T1 hE1 lE T2 hF1 lF T3 hG1 lG T4 hH1 F6 N6 lH
  have nt6 : NotTup _ [P.b, P.D, P.dl, P.tl, ml, nd, sl, I] := newsNotTup N6 (by k_extra "m nt")
  clear lA lE lF lG lH lt3
  have wc : wy = 0 ∨ wy = 1 ∨ wy = 2 ∨ wy = 3 := by omega
  rcases wc with rfl | rfl | rfl | rfl
  · k_steps
    · rename Fr _ _ _ _ => F7
      rename News _ _ _ _ => N7
      rename bi4 ≠ [] => hbn
      obtain ⟨oT, ta, tb, tc, mT, eT, cT, dT⟩ := pick_tup (T := T1) (x := (x : Int)) (c := Str.ofString "<=") (k := medianOf rs - 1) N7 (by k_mem)
      have nt7 : NotTup _ [P.b, P.D, P.dl, P.tl, ml, nd, sl, I] := newsNotTup N7 (by k_extra "m nt")
      have subN : ∀ p ∈ pq5, p ∈ ((T1, oT) :: pq5) := fun p hp => .tail _ hp
      have hoffN : OwnOff ((T1, oT) :: pq5) [P.b, P.D, P.dl, P.tl, ml, nd, sl, I] := OwnOff.cons (off_tup eT cT nt7) hoff8
      have hkp : LInPn g ((T1, oT) :: pq5) b4 bi4 (struckBy 0 rs (medianOf rs - 1)) := by
        show LInPn g ((T1, oT) :: pq5) b4 bi4 (upTo rs (medianOf rs - 1))
        rw [← between_lo hgx]
        exact lin4.more subN
      have N8 : News g L _ ((I, oI) :: ledOf L P oc2 hs ts ml nd vsp vi vc dv tr ms sv n1 n2 n3 n4 od sl ((T1, oT) :: pq5)) := news_sub N7 (by k_extra "m perm2")
      have hkn : struckBy 0 rs (medianOf rs - 1) ≠ [] := fun q => by
        have y := (hkp.prs F7 N8 (by k_extra "m own")).length
        rw [q] at y
        exact hbn (List.length_eq_zero_iff.mp y)
      unfold Halt
      refine wpAny_mono (law_down (s₁ := s₁) (way := 0) (x := x) (rs := rs) (kn := medianOf rs - 1) (kp := b4) (lit := T1) (pn := (T1, oT) :: pq5) (i := i) C hA0 hoc hP hi ⟨bg2, by omega, fun p hp c hc => hoffN p hp c (mem78 hc), ⟨ap1, ap2, ap3, ap4, ap5, ap6, ap7, ap8, ap9, ap10, ap11, ap12⟩, ⟨aL1, aL2, aL3, aL4, aL5, aL6, aL7⟩, hTl.more subN, hV.more subN, hLs.more subN, hLp.more subN, hTr.more subN, hHi.more subN, hcur, hhist, hhl, hms, hes, hod, hnn⟩ (by omega) hx hdx (by decide) hkp hkn (upTo_ne hgx hnx) (good_upTo hgx) (by have : (struckBy 0 rs (medianOf rs - 1)).length ≤ rs.length := upTo_length rs (medianOf rs - 1); omega)
        (fun h k1 k2 => ⟨oT, k2 _ (.head _), cT, 0, dT⟩) (fr_ov _ F7 (by k_extra "m in") (by k_extra "m out")) N8 hoffN ⟨aI1, aI2, aI3, aI4, aI5, aI6, aI7, aI8, aI9, aI10, aI11⟩ hoI rfl) (fun f s' hf => ?_) (fun _ _ e => e)
      obtain ⟨rfl, he⟩ := hf
      dsimp only
      repeat (first | (refine wpAny_execs_nil ?_) | dsimp only)
      exact he
    · rename Fr _ _ _ _ => F7
      rename News _ _ _ _ => N7
      have subN : ∀ p ∈ pq5, p ∈ pq5 := fun p hp => hp
      have hoffN := hoff8
      refine ⟨_, _, _, _, ledOf L P oc2 hs ts ml nd vsp vi vc dv tr ms sv n1 n2 n3 n4 od sl pq5, rfl, F7, N7, (by k_extra "m perm"), (by k_extra "m perm"), sep2 ((in_cons aI1.ne ((in_cons aI2.ne ((in_cons aI3.ne ((in_cons aI4.ne ((in_cons aI5.ne ((in_cons aI6.ne ((in_cons aI7.ne ((in_cons aI8.ne ((in_cons aI9.ne ((in_cons aI10.ne ((in_cons aI11.ne (fun p hp => hoff8 p hp I (by k_mem)))))))))))))))))))))))),
        jMain_of (ll := ll) (lv := lv) (cur := cur) (hist := hist) (es := es) (nn := nn) (nb := nb + 1 + 1) (jf_up ⟨bg2, by omega, fun p hp c hc => hoffN p hp c (mem78 hc), ⟨ap1, ap2, ap3, ap4, ap5, ap6, ap7, ap8, ap9, ap10, ap11, ap12⟩, ⟨aL1, aL2, aL3, aL4, aL5, aL6, aL7⟩, hTl.more subN, hV.more subN, hLs.more subN, hLp.more subN, hTr.more subN, hHi.more subN, hcur, hhist, hhl, hms, hes, hod, hnn⟩) (by omega) (ov_eq _ (by k_extra "m in") (by k_extra "m out"))⟩
  · k_steps
    · rename Fr _ _ _ _ => F7
      rename News _ _ _ _ => N7
      rename bi5 ≠ [] => hbn
      obtain ⟨oT, ta, tb, tc, mT, eT, cT, dT⟩ := pick_tup (T := T2) (x := (x : Int)) (c := Str.ofString ">=") (k := medianOf rs + 1) N7 (by k_mem)
      have nt7 : NotTup _ [P.b, P.D, P.dl, P.tl, ml, nd, sl, I] := newsNotTup N7 (by k_extra "m nt")
      have subN : ∀ p ∈ pq5, p ∈ ((T2, oT) :: pq5) := fun p hp => .tail _ hp
      have hoffN : OwnOff ((T2, oT) :: pq5) [P.b, P.D, P.dl, P.tl, ml, nd, sl, I] := OwnOff.cons (off_tup eT cT nt7) hoff8
      have hkp : LInPn g ((T2, oT) :: pq5) b5 bi5 (struckBy 1 rs (medianOf rs + 1)) := by
        show LInPn g ((T2, oT) :: pq5) b5 bi5 (fromOn rs (medianOf rs + 1))
        rw [← between_hi hgx]
        exact lin5.more subN
      have N8 : News g L _ ((I, oI) :: ledOf L P oc2 hs ts ml nd vsp vi vc dv tr ms sv n1 n2 n3 n4 od sl ((T2, oT) :: pq5)) := news_sub N7 (by k_extra "m perm2")
      have hkn : struckBy 1 rs (medianOf rs + 1) ≠ [] := fun q => by
        have y := (hkp.prs F7 N8 (by k_extra "m own")).length
        rw [q] at y
        exact hbn (List.length_eq_zero_iff.mp y)
      unfold Halt
      refine wpAny_mono (law_down (s₁ := s₁) (way := 1) (x := x) (rs := rs) (kn := medianOf rs + 1) (kp := b5) (lit := T2) (pn := (T2, oT) :: pq5) (i := i) C hA0 hoc hP hi ⟨bg2, by omega, fun p hp c hc => hoffN p hp c (mem78 hc), ⟨ap1, ap2, ap3, ap4, ap5, ap6, ap7, ap8, ap9, ap10, ap11, ap12⟩, ⟨aL1, aL2, aL3, aL4, aL5, aL6, aL7⟩, hTl.more subN, hV.more subN, hLs.more subN, hLp.more subN, hTr.more subN, hHi.more subN, hcur, hhist, hhl, hms, hes, hod, hnn⟩ (by omega) hx hdx (by decide) hkp hkn (fromOn_ne hgx hnx) (good_fromOn hgx) (by have : (struckBy 1 rs (medianOf rs + 1)).length ≤ rs.length := fromOn_length rs (medianOf rs + 1); omega)
        (fun h k1 k2 => ⟨oT, k2 _ (.head _), cT, 0, dT⟩) (fr_ov _ F7 (by k_extra "m in") (by k_extra "m out")) N8 hoffN ⟨aI1, aI2, aI3, aI4, aI5, aI6, aI7, aI8, aI9, aI10, aI11⟩ hoI rfl) (fun f s' hf => ?_) (fun _ _ e => e)
      obtain ⟨rfl, he⟩ := hf
      dsimp only
      repeat (first | (refine wpAny_execs_nil ?_) | dsimp only)
      exact he
    · rename Fr _ _ _ _ => F7
      rename News _ _ _ _ => N7
      have subN : ∀ p ∈ pq5, p ∈ pq5 := fun p hp => hp
      have hoffN := hoff8
      refine ⟨_, _, _, _, ledOf L P oc2 hs ts ml nd vsp vi vc dv tr ms sv n1 n2 n3 n4 od sl pq5, rfl, F7, N7, (by k_extra "m perm"), (by k_extra "m perm"), sep2 ((in_cons aI1.ne ((in_cons aI2.ne ((in_cons aI3.ne ((in_cons aI4.ne ((in_cons aI5.ne ((in_cons aI6.ne ((in_cons aI7.ne ((in_cons aI8.ne ((in_cons aI9.ne ((in_cons aI10.ne ((in_cons aI11.ne (fun p hp => hoff8 p hp I (by k_mem)))))))))))))))))))))))),
        jMain_of (ll := ll) (lv := lv) (cur := cur) (hist := hist) (es := es) (nn := nn) (nb := nb + 1 + 1) (jf_up ⟨bg2, by omega, fun p hp c hc => hoffN p hp c (mem78 hc), ⟨ap1, ap2, ap3, ap4, ap5, ap6, ap7, ap8, ap9, ap10, ap11, ap12⟩, ⟨aL1, aL2, aL3, aL4, aL5, aL6, aL7⟩, hTl.more subN, hV.more subN, hLs.more subN, hLp.more subN, hTr.more subN, hHi.more subN, hcur, hhist, hhl, hms, hes, hod, hnn⟩) (by omega) (ov_eq _ (by k_extra "m in") (by k_extra "m out"))⟩
  · k_steps
    · rename Fr _ _ _ _ => F7
      rename News _ _ _ _ => N7
      rename bi4 ++ bi5 ≠ [] => hbn
      rename_i kc g7 lkc e0 g6 f3 e1 g5 f2 e2 g4 f1 g3 g2 g1 tkq le0 gh f0
      obtain ⟨oT, ta, tb, tc, mT, eT, cT, dT⟩ := pick_tup (T := T3) (x := (x : Int)) (c := Str.ofString "!=") (k := medianOf rs) N7 (by k_mem)
      have nt7 : NotTup _ [P.b, P.D, P.dl, P.tl, ml, nd, sl, I] := newsNotTup N7 (by k_extra "m nt")
      have subN : ∀ p ∈ pq5, p ∈ ((T3, oT) :: (kc, lstObj (bi4 ++ bi5) 0) :: pq5) := fun p hp => .tail _ (.tail _ hp)
      have hoffN : OwnOff ((T3, oT) :: (kc, lstObj (bi4 ++ bi5) 0) :: pq5) [P.b, P.D, P.dl, P.tl, ml, nd, sl, I] := OwnOff.cons (off_tup eT cT nt7) (OwnOff.cons (by k_extra "m off") hoff8)
      have hkp : LInPn g ((T3, oT) :: (kc, lstObj (bi4 ++ bi5) 0) :: pq5) kc (bi4 ++ bi5) (struckBy 2 rs (medianOf rs)) := fun h k1 k2 => by
        refine ⟨⟨_, k2 _ (.tail _ (.head _)), rfl, 0, rfl⟩, ?_⟩
        show Prs h (bi4 ++ bi5) (upTo rs (medianOf rs - 1) ++ fromOn rs (medianOf rs + 1))
        rw [← between_lo hgx, ← between_hi hgx]
        exact Prs.append (lin4 h k1 fun p hp => k2 p (subN p hp)).2 (lin5 h k1 fun p hp => k2 p (subN p hp)).2
      have N8 : News g L _ ((I, oI) :: ledOf L P oc2 hs ts ml nd vsp vi vc dv tr ms sv n1 n2 n3 n4 od sl ((T3, oT) :: (kc, lstObj (bi4 ++ bi5) 0) :: pq5)) := news_sub N7 (by k_extra "m perm2")
      have hkn : struckBy 2 rs (medianOf rs) ≠ [] := fun q => by
        have y := (hkp.prs F7 N8 (by k_extra "m own")).length
        rw [q] at y
        exact hbn (List.length_eq_zero_iff.mp y)
      unfold Halt
      refine wpAny_mono (law_down (s₁ := s₁) (way := 2) (x := x) (rs := rs) (kn := medianOf rs) (kp := kc) (lit := T3) (pn := (T3, oT) :: (kc, lstObj (bi4 ++ bi5) 0) :: pq5) (i := i) C hA0 hoc hP hi ⟨bg2, by omega, fun p hp c hc => hoffN p hp c (mem78 hc), ⟨ap1, ap2, ap3, ap4, ap5, ap6, ap7, ap8, ap9, ap10, ap11, ap12⟩, ⟨aL1, aL2, aL3, aL4, aL5, aL6, aL7⟩, hTl.more subN, hV.more subN, hLs.more subN, hLp.more subN, hTr.more subN, hHi.more subN, hcur, hhist, hhl, hms, hes, hod, hnn⟩ (by omega) hx hdx (by decide) hkp hkn (without_ne hgx hnx) (good_without hgx) (without_length hgx)
        (fun h k1 k2 => ⟨oT, k2 _ (.head _), cT, 0, dT⟩) (fr_ov _ F7 (by k_extra "m in") (by k_extra "m out")) N8 hoffN ⟨aI1, aI2, aI3, aI4, aI5, aI6, aI7, aI8, aI9, aI10, aI11⟩ hoI rfl) (fun f s' hf => ?_) (fun _ _ e => e)
      obtain ⟨rfl, he⟩ := hf
      dsimp only
      repeat (first | (refine wpAny_execs_nil ?_) | dsimp only)
      exact he
    · rename Fr _ _ _ _ => F7
      rename News _ _ _ _ => N7
      have subN : ∀ p ∈ pq5, p ∈ pq5 := fun p hp => hp
      have hoffN := hoff8
      refine ⟨_, _, _, _, ledOf L P oc2 hs ts ml nd vsp vi vc dv tr ms sv n1 n2 n3 n4 od sl pq5, rfl, F7, N7, (by k_extra "m perm"), (by k_extra "m perm"), sep2 ((in_cons aI1.ne ((in_cons aI2.ne ((in_cons aI3.ne ((in_cons aI4.ne ((in_cons aI5.ne ((in_cons aI6.ne ((in_cons aI7.ne ((in_cons aI8.ne ((in_cons aI9.ne ((in_cons aI10.ne ((in_cons aI11.ne (fun p hp => hoff8 p hp I (by k_mem)))))))))))))))))))))))),
        jMain_of (ll := ll) (lv := lv) (cur := cur) (hist := hist) (es := es) (nn := nn) (nb := nb + 1 + 1) (jf_up ⟨bg2, by omega, fun p hp c hc => hoffN p hp c (mem78 hc), ⟨ap1, ap2, ap3, ap4, ap5, ap6, ap7, ap8, ap9, ap10, ap11, ap12⟩, ⟨aL1, aL2, aL3, aL4, aL5, aL6, aL7⟩, hTl.more subN, hV.more subN, hLs.more subN, hLp.more subN, hTr.more subN, hHi.more subN, hcur, hhist, hhl, hms, hes, hod, hnn⟩) (by omega) (ov_eq _ (by k_extra "m in") (by k_extra "m out"))⟩
  · k_steps
    · rename Fr _ _ _ _ => F7
      rename News _ _ _ _ => N7
      rename sv ≠ [] => hbn
      have subN : ∀ p ∈ pq5, p ∈ pq5 := fun p hp => hp
      have hoffN := hoff8
      have N8 : News g L _ ((I, oI) :: ledOf L P oc2 hs ts ml nd vsp vi vc dv tr ms sv n1 n2 n3 n4 od sl pq5) := news_sub N7 (by k_extra "m perm2")
      unfold Halt
      refine wpAny_mono (law_up (s₁ := s₁) (pn := pq5) (i := i) C hA0 hoc hP hi ⟨bg2, by omega, fun p hp c hc => hoffN p hp c (mem78 hc), ⟨ap1, ap2, ap3, ap4, ap5, ap6, ap7, ap8, ap9, ap10, ap11, ap12⟩, ⟨aL1, aL2, aL3, aL4, aL5, aL6, aL7⟩, hTl.more subN, hV.more subN, hLs.more subN, hLp.more subN, hTr.more subN, hHi.more subN, hcur, hhist, hhl, hms, hes, hod, hnn⟩ (by omega) hbn (fr_ov _ F7 (by k_extra "m in") (by k_extra "m out")) N8 hoffN ⟨aI1, aI2, aI3, aI4, aI5, aI6, aI7, aI8, aI9, aI10, aI11⟩ hoI rfl) (fun f s' hf => ?_) (fun _ _ e => e)
      obtain ⟨rfl, he⟩ := hf
      dsimp only
      repeat (first | (refine wpAny_execs_nil ?_) | dsimp only)
      exact he
    · rename Fr _ _ _ _ => F7
      rename News _ _ _ _ => N7
      have subN : ∀ p ∈ pq5, p ∈ pq5 := fun p hp => hp
      have hoffN := hoff8
      refine ⟨_, _, _, _, ledOf L P oc2 hs ts ml nd vsp vi vc dv tr ms sv n1 n2 n3 n4 od sl pq5, rfl, F7, N7, (by k_extra "m perm"), (by k_extra "m perm"), sep2 ((in_cons aI1.ne ((in_cons aI2.ne ((in_cons aI3.ne ((in_cons aI4.ne ((in_cons aI5.ne ((in_cons aI6.ne ((in_cons aI7.ne ((in_cons aI8.ne ((in_cons aI9.ne ((in_cons aI10.ne ((in_cons aI11.ne (fun p hp => hoff8 p hp I (by k_mem)))))))))))))))))))))))),
        jMain_of (ll := ll) (lv := lv) (cur := cur) (hist := hist) (es := es) (nn := nn) (nb := nb + 1 + 1) (jf_up ⟨bg2, by omega, fun p hp c hc => hoffN p hp c (mem78 hc), ⟨ap1, ap2, ap3, ap4, ap5, ap6, ap7, ap8, ap9, ap10, ap11, ap12⟩, ⟨aL1, aL2, aL3, aL4, aL5, aL6, aL7⟩, hTl.more subN, hV.more subN, hLs.more subN, hLp.more subN, hTr.more subN, hHi.more subN, hcur, hhist, hhl, hms, hes, hod, hnn⟩) (by omega) (ov_eq _ (by k_extra "m in") (by k_extra "m out"))⟩

end
theorem rows98 : True := by
  k_with_none
  k_with "m mem" => first | exact mem0 | exact mem1 | exact mem2 | exact mem3 | (refine' mem4 ?_; k_extra "m mem")
  k_with "k ne" => (refine neN ?_; (try dsimp only); k_extra "m ne0")
  k_with "m lt0" => first | with_reducible assumption | (refine lt_from (by with_reducible assumption) ?_; intro hh; first | exact hh.1 | exact hh.2 | exact hh.2.1 | exact hh.2.2 | exact hh.2.2.1 | exact hh.2.2.2 | exact hh.2.2.2.1 | exact hh.2.2.2.2 | exact hh.2.2.2.2.1 | exact hh.2.2.2.2.2 | exact hh.2.2.2.2.2.1 | exact hh.2.2.2.2.2.2 | exact hh.2.2.2.2.2.2.1 | exact hh.2.2.2.2.2.2.2 | exact hh.2.2.2.2.2.2.2.1 | exact hh.2.2.2.2.2.2.2.2 | exact hh.2.2.2.2.2.2.2.2.1 | exact hh.2.2.2.2.2.2.2.2.2 | exact hh.2.2.2.2.2.2.2.2.2.1 | exact hh.2.2.2.2.2.2.2.2.2.2 | exact hh.2.2.2.2.2.2.2.2.2.2.1 | exact hh.2.2.2.2.2.2.2.2.2.2.2 | exact hh.2.2.2.2.2.2.2.2.2.2.2.1 | exact hh.2.2.2.2.2.2.2.2.2.2.2.2 | exact hh.2.2.2.2.2.2.2.2.2.2.2.2.1 | exact hh.2.2.2.2.2.2.2.2.2.2.2.2.2 | exact hh.2.2.2.2.2.2.2.2.2.2.2.2.2.1 | exact hh.2.2.2.2.2.2.2.2.2.2.2.2.2.2 | exact hh.2.2.2.2.2.2.2.2.2.2.2.2.2.2.1 | exact hh.2.2.2.2.2.2.2.2.2.2.2.2.2.2.2 | exact hh.2.2.2.2.2.2.2.2.2.2.2.2.2.2.2.1 | exact hh.2.2.2.2.2.2.2.2.2.2.2.2.2.2.2.2 | exact hh.2.2.2.2.2.2.2.2.2.2.2.2.2.2.2.2.1 | exact hh.2.2.2.2.2.2.2.2.2.2.2.2.2.2.2.2.2 | exact hh.2.2.2.2.2.2.2.2.2.2.2.2.2.2.2.2.2.1 | exact hh.2.2.2.2.2.2.2.2.2.2.2.2.2.2.2.2.2.2 | exact hh.2.2.2.2.2.2.2.2.2.2.2.2.2.2.2.2.2.2.1 | exact hh.2.2.2.2.2.2.2.2.2.2.2.2.2.2.2.2.2.2.2 | exact hh.2.2.2.2.2.2.2.2.2.2.2.2.2.2.2.2.2.2.2.1 | exact hh.2.2.2.2.2.2.2.2.2.2.2.2.2.2.2.2.2.2.2.2 | exact hh.2.2.2.2.2.2.2.2.2.2.2.2.2.2.2.2.2.2.2.2.1 | exact hh.2.2.2.2.2.2.2.2.2.2.2.2.2.2.2.2.2.2.2.2.2 | exact hh.2.2.2.2.2.2.2.2.2.2.2.2.2.2.2.2.2.2.2.2.2.1 | exact hh.2.2.2.2.2.2.2.2.2.2.2.2.2.2.2.2.2.2.2.2.2.2)
  k_with "m lt" => first | k_extra "m lt0" | omega
  k_with "m ne0" => first | with_reducible assumption | exact Ne.symm (by with_reducible assumption) | exact Nat.ne_of_lt (by k_extra "m lt0") | exact Nat.ne_of_gt (by k_extra "m lt0")
  k_with "m fill" => (have hfill : Challenge.rw_pq0372_01 = Challenge.rw_pq0372_01 ∧ KF = KF := (by k_fill; exact ⟨rfl, rfl⟩); clear hfill)
  k_with "m around" => ((rename Around => mA'); (rcases mA' with ⟨_, _, _, _, _⟩); (have mE' := Calm.hh (by with_reducible assumption)); (dsimp only at mE'); subst mE')
  k_with "m enter0" => (k_extra "m around"; k_extra "m fill"; refine wpAny_call ?_; k_dflt (refine' enter0 (by assumption) (by assumption) (by assumption) (by k_is) (by k_is) (by exact BindsTo.of_eq rfl) (by exact locs rfl) ?_ (by exact rfl) (by exact rfl) (by exact rfl) (by decide); k_whole; intro _ _ _ _ _ _ _ _ _; (try dsimp only); (try k_fold)))
  k_with "m enterC0" => (k_extra "m around"; k_extra "m fill"; refine wpAny_call ?_; k_dflt (refine' enterC0 (by assumption) (by assumption) (by assumption) (by k_is) (by k_is) (by exact BindsTo.of_eq rfl) (by rfl) (by decide) ?_ (by exact rfl) (by exact rfl) (by exact rfl); k_whole; intro _ _ _ _ _ _ _ _ _ _ _; (try dsimp only); (try k_fold)))
  k_with "m cell1" => ((rename CellsAre _ _ _ => mY'); (with_unfolding_all have mY2' := CellsAre.one mY'); (obtain ⟨_, me', _⟩ := mY2'); (subst me'); clear mY')
  k_with "m cell2" => ((rename CellsAre _ _ _ => mY'); (with_unfolding_all have mY2' := CellsAre.two mY'); (obtain ⟨_, _, me', _, _⟩ := mY2'); (subst me'); clear mY')
  k_with "m tup" => first | assumption | exact fr_tup (by with_reducible assumption) (by with_reducible assumption) | exact News.isTup (by with_reducible assumption) (by news_mem)
  k_with "m list" => first | assumption | exact fr_list (by with_reducible assumption) (by with_reducible assumption) | exact News.isList (by with_reducible assumption) (by news_mem)
  k_with "call builtin:len" => (k_here; (with_reducible show wpAny _ _ (call (Value.builtin "len") [Value.ref _]) _ _ _); k_dflt first | (refine' len_tup (by k_extra "m tup") (by first | assumption | (with_reducible decide) | omega | (simp only [List.length_append, List.length_cons, List.length_nil]; first | decide | omega)) ?_; k_whole; intro _ _) | (refine' len_lst (by k_extra "m list") (by first | assumption | (with_reducible decide) | omega | (simp only [List.length_append, List.length_cons, List.length_nil]; first | decide | omega)) ?_; k_whole; intro _ _))
  k_with "subscriptTail" => (k_here; (with_reducible show wpAny _ _ (subscriptTail _ _ (Value.ref _) (Value.int (-1) _)) _ _ _); (with_unfolding_all refine' tup_last (by k_extra "m tup") (by first | assumption | rfl) ?_ (by with_unfolding_all rfl); k_whole))
  k_with "subscriptTail" => (k_here; (with_reducible show wpAny _ _ (subscriptTail _ _ (Value.ref _) (Value.int _ _)) _ _ _); (with_unfolding_all apply tup_at); (case ht => k_extra "m tup"); (first | ((case hk => with_unfolding_all rfl); (case hx => first | assumption | rfl)) | ((case hx => assumption); (case hk => omega))); (case hf => first | decide | omega); (case hs => with_unfolding_all rfl); k_whole)
  k_with "subscriptTail" => (k_here; (with_reducible show wpAny _ _ (subscriptTail _ _ (Value.ref _) (Value.int _ _)) _ _ _); (with_unfolding_all apply list_at); (case ht => k_extra "m list"); (first | ((case hk => with_unfolding_all rfl); (case hx => first | assumption | rfl)) | ((case hx => assumption); (case hk => omega))); (case hf => first | decide | omega); (case hs => with_unfolding_all rfl); k_whole)
  k_with "k inst" => exact instAt_base (by assumption) (by assumption) (by assumption)
  k_with "m stays" => first | with_reducible assumption | exact stays_fr (by with_reducible assumption) (by with_reducible assumption)
  k_with "m calm" => exact Calm.le (by assumption) (by decide)
  k_with "m kept" => ((rename Fr _ _ _ _ => kF'); (rename News _ _ _ _ => kN'); (refine kept_of (by with_reducible assumption) kF' kN' ?_); clear kF' kN'; intro _ _; (try dsimp only); (try k_fold))
  k_with "eval Name" => ((with_reducible show wpAny _ _ (eval (Expr.Name _ _) (compEnvC _ _ _ _)) _ _ _); k_dflt first | (apply comp_local; (case F => with_reducible assumption); (case hk => rfl); (case hl => with_unfolding_all rfl); (case hd => decide); (case hm => first | with_reducible assumption | with_unfolding_all rfl); k_whole) | (apply comp_cell; (case F => with_reducible assumption); (case hk => rfl); (case hl => with_unfolding_all rfl); (case hd => decide); (case hc => with_unfolding_all rfl); (case ho => assumption); (case hv => with_reducible assumption); k_whole) | (apply comp_builtin; (case F => with_reducible assumption); (case T => with_reducible assumption); (case k => with_reducible assumption); (case hg => rfl); (case hb => rfl); (case hk => rfl); (case hx => with_unfolding_all rfl); (case hd => decide); (case h2 => first | exact mb_max (by with_reducible assumption) | exact mb_min (by with_reducible assumption)); (case h1 => first | exact mg_max (by with_reducible assumption) | exact mg_min (by with_reducible assumption)); k_whole))
  k_with "call builtin:max" => ((with_reducible show wpAny _ _ (call (Value.builtin _) [Value.int _ _, Value.int _ _]) _ _ _); k_dflt (refine' comp_max (by with_reducible assumption) (by first | exact Calm.hh (by assumption) | with_unfolding_all rfl) ?_; k_whole; intro _ _ _ _ _))
  k_with "call builtin:min" => ((with_reducible show wpAny _ _ (call (Value.builtin _) [Value.int _ _, Value.int _ _]) _ _ _); k_dflt (refine' comp_min (by with_reducible assumption) (by first | exact Calm.hh (by assumption) | with_unfolding_all rfl) ?_; k_whole; intro _ _ _ _ _))
  k_with "newTuple" => (k_dflt (refine' comp_tuple (by with_reducible assumption) ?_ (by rfl); k_whole; intro _ _ _ _))
  k_with "call type:tuple" => ((with_reducible show wpAny _ _ (call (Value.type _) [Value.ref _]) _ _ _); k_dflt (refine' tuple_of (by with_reducible assumption) (by with_reducible assumption) (by k_extra "m list") (by first | assumption | omega) ?_; k_whole; intro _ _ _ _ _ _))
  k_with "call ref" => (k_here; (with_reducible show wpAny _ _ (call (Value.ref 77) _) _ _ _); k_dflt (refine' least_spec (by assumption) (by k_extra "m stays") (by k_extra "m calm") (by k_extra "m tup") (by assumption) (by k_extra "m tup") ?_; intro _ _ _ _; k_extra "m kept"))
  k_with "call ref" => (k_here; (with_reducible show wpAny _ _ (call (Value.ref 84) _) _ _ _); k_dflt (refine' greatest_spec (by assumption) (by k_extra "m stays") (by k_extra "m calm") (by k_extra "m tup") (by assumption) (by k_extra "m tup") ?_; intro _ _ _ _; k_extra "m kept"))
  k_with "call ref" => (k_here; (with_reducible show wpAny _ _ (call (Value.ref 183) _) _ _ _); k_dflt (refine' dom_spec (by assumption) (by k_extra "m stays") (by k_extra "m calm") (by k_extra "m desk") (by assumption) (by assumption) ?_; intro _ _ _; k_extra "m kept"))
  k_with "call ref" => (k_here; (with_reducible show wpAny _ _ (call (Value.ref 197) _) _ _ _); k_dflt (refine' low_spec (by assumption) (by k_extra "m stays") (by k_extra "m calm") (by k_extra "m desk") (by assumption) (by assumption) (by k_extra "m tup") (by assumption) (by k_extra "m tup") ?_; intro _ _ _ _; k_extra "m kept"))
  k_with "call ref" => (k_here; (with_reducible show wpAny _ _ (call (Value.ref 204) _) _ _ _); k_dflt (refine' high_spec (by assumption) (by k_extra "m stays") (by k_extra "m calm") (by k_extra "m desk") (by assumption) (by assumption) (by k_extra "m tup") (by assumption) (by k_extra "m tup") ?_; intro _ _ _ _; k_extra "m kept"))
  k_with "call ref" => (k_here; (with_reducible show wpAny _ _ (call (Value.ref 89) _) _ _ _); k_dflt (refine' size_spec (by assumption) (by k_extra "m stays") (by k_extra "m calm") (by k_extra "m tup") (by first | assumption | exact Prs.mono (Fr.keep (by with_reducible assumption)) (by with_reducible assumption)) (by assumption) ?_; intro _ _ _ _; k_extra "m kept"))
  k_with "m prs" => first | with_reducible assumption | exact Prs.mono (Fr.keep (by with_reducible assumption)) (by with_reducible assumption)
  k_with "call ref" => (k_here; (with_reducible show wpAny _ _ (call (Value.ref 108) _) _ _ _); k_dflt (refine' upTo_spec (by assumption) (by k_extra "m stays") (by k_extra "m calm") (by k_extra "m tup") (by k_extra "m prs") (by assumption) ?_; intro _ _ _ kc dc; (obtain ⟨ac, vc, ec, tc, pc⟩ := dc); subst ec; revert kc ac vc tc pc; intro _ _ _ _ _; k_extra "m kept"))
  k_with "call ref" => (k_here; (with_reducible show wpAny _ _ (call (Value.ref 113) _) _ _ _); k_dflt (refine' fromOn_spec (by assumption) (by k_extra "m stays") (by k_extra "m calm") (by k_extra "m tup") (by k_extra "m prs") (by assumption) ?_; intro _ _ _ kc dc; (obtain ⟨ac, vc, ec, tc, pc⟩ := dc); subst ec; revert kc ac vc tc pc; intro _ _ _ _ _; k_extra "m kept"))
  k_with "call ref" => (k_here; (with_reducible show wpAny _ _ (call (Value.ref 120) _) _ _ _); k_dflt (refine' without_spec (by assumption) (by k_extra "m stays") (by k_extra "m calm") (by k_extra "m tup") (by k_extra "m prs") (by assumption) ?_; intro _ _ _ kc dc; (obtain ⟨ac, vc, ec, tc, pc⟩ := dc); subst ec; revert kc ac vc tc pc; intro _ _ _ _ _; k_extra "m kept"))
  k_with "call ref" => (k_here; (with_reducible show wpAny _ _ (call (Value.ref 141) _) _ _ _); k_dflt (refine' struck_spec (by assumption) (by k_extra "m stays") (by k_extra "m calm") (by assumption) (by first | assumption | exact LitAt.mono (Fr.keep (by with_reducible assumption)) (by with_reducible assumption)) (by k_extra "m tup") (by k_extra "m prs") (by assumption) ?_; intro _ _ _ kc dc; (obtain ⟨ac, vc, ec, tc, pc⟩ := dc); subst ec; revert kc ac vc tc pc; intro _ _ _ _ _; k_extra "m kept"))
  k_with "m desk" => first | assumption | exact DeskR.mono (Fr.keep (by with_reducible assumption)) (by assumption) | exact DeskR.mono (by with_reducible assumption) (by assumption)
  k_with "call ref" => (k_here; (with_reducible show wpAny _ _ (call (Value.ref 232) _) _ _ _); k_dflt (refine' width_spec (by assumption) (by k_extra "m stays") (by k_extra "m calm") (by k_extra "m desk") (by assumption) (by assumption) (by k_extra "m tup") (by k_extra "m prs") (by assumption) ?_; intro _ _ _ _; k_extra "m kept"))
  k_with "call ref" => (k_here; (with_reducible show wpAny _ _ (call (Value.ref 218) _) _ _ _); k_dflt (refine' is_fixed_spec (by assumption) (by k_extra "m stays") (by k_extra "m calm") (by k_extra "m desk") (by assumption) (by assumption) (by k_extra "m tup") (by k_extra "m prs") (by assumption) (by assumption) ?_; intro _ _ _; k_extra "m kept"))
  k_with "m in" => (repeat' (first | exact List.forall_mem_nil _ | (refine in_cons ?_ ?_; (with_unfolding_all rfl))))
  k_with "m out" => (intro my' mhy'; (repeat' first | (with_reducible exact rfl) | refine out_mem mhy' (by with_reducible k_extra "m mem") ?_ | refine out_rmem mhy' (by with_reducible k_extra "m mem") ?_ | refine out_same mhy' ?_ _ (by rfl) | refine out_ov mhy' ?_ _ (by kernel_rfl)))
  k_with "m sub" => (intro mp' mhp'; (simp only [List.mem_cons, List.not_mem_nil, or_false, List.mem_append] at mhp' ⊢); (first | exact mhp' | (rcases mhp' with mhp' | mhp' <;> simp [mhp']) | simp [mhp']))
  k_with "m for range" => (k_here; k_dflt (refine' for_rangeF (by with_reducible assumption) (by with_unfolding_all rfl) ?_ (by rfl) (by with_unfolding_all rfl) (by rfl) (by (intro _; rfl)); k_whole))
  k_with "m for tup" => (k_here; k_dflt (refine' for_tupF (by with_reducible assumption) (by with_unfolding_all rfl) ?_ (by rfl) (by with_unfolding_all rfl) (by rfl) (by (intro _; rfl)); k_whole))
  k_with "m for pairs" => (k_here; k_dflt (refine' for_pairsF (by with_reducible assumption) (by with_unfolding_all rfl) ?_ (by rfl) (by with_unfolding_all rfl) (by with_unfolding_all rfl) (by rfl) (by (intro _; rfl)); k_whole))
  k_with "call ref" => (k_here; (with_reducible show wpAny _ _ (call (Value.ref 56) _) _ _ _); k_dflt (refine' median_spec (by assumption) (by k_extra "m stays") (by k_extra "m calm") (by k_extra "m desk") (by assumption) (by assumption) (by k_extra "m tup") (by k_extra "m prs") (by assumption) (by assumption) ?_; intro _ _ _ _; k_extra "m kept"))
  k_with "m map" => first | assumption | exact fr_map (by with_reducible assumption) (by with_reducible assumption)
  k_with "m br" => first | assumption | exact BrR.mono (Fr.keep (by with_reducible assumption)) (by assumption) | exact BrR.mono (by with_reducible assumption) (by assumption)
  k_with "call ref" => (k_here; (with_reducible show wpAny _ _ (call (Value.ref 42) _) _ _ _); k_dflt (refine' rank_spec (by assumption) (by k_extra "m stays") (by k_extra "m calm") (by k_extra "m desk") (by k_extra "m br") (by assumption) (by assumption) (by assumption) (by assumption) (by k_extra "m tup") (by k_extra "m prs") (by assumption) (by assumption) ?_; intro _ _ _ _ _ kc fc oc; (rename Fr _ _ _ _ => kF'); (rename News _ _ _ _ => kN'); (have F' := Fr.keeps kF' kc); (have N' := news_fresh kF' kN' kc fc oc); clear kF' kN'; revert kc fc oc F' N'; intro _ _ _ _ _; (try dsimp only); (try k_fold)))
  k_with "m vars" => first | assumption | exact VarsAt.mono (Fr.keep (by with_reducible assumption)) (by assumption) | exact VarsAt.mono (by with_reducible assumption) (by assumption)
  k_with "call ref" => (k_here; (with_reducible show wpAny _ _ (call (Value.ref 49) _) _ _ _); k_dflt (refine' next_spec' (by assumption) (by k_extra "m stays") (by k_extra "m calm") (by k_extra "m desk") (by k_extra "m br") (by assumption) (by k_extra "m vars") (by assumption) (by assumption) (by assumption) (by assumption) (by assumption) ?_; intro _ _ _ _; k_extra "m kept"))
  k_with "call ref" => (k_here; (with_reducible show wpAny _ _ (call (Value.ref 63) _) _ _ _); k_dflt (refine' choose_spec (by assumption) (by k_extra "m stays") (by k_extra "m calm") (by k_extra "m desk") (by k_extra "m br") (by assumption) (by k_extra "m vars") (by assumption) (by assumption) (by assumption) (by assumption) ?_; intro _ _ _ _ _; k_extra "m kept"))
  k_with "m unit" => first | exact Calm.u1 (by with_reducible assumption)
  k_with "m prs0" => first | exact Prs.mono (Fr.keep (by with_reducible assumption)) (by with_reducible assumption) | with_reducible assumption | exact prs_nil | k_extra "m prs"
  k_with "compareOp Eq ref ref" => (k_here; k_dflt (refine' eq_doms (by k_extra "m tup") (by k_extra "m prs0") (by k_extra "m tup") (by k_extra "m prs0") (by k_extra "m unit") ?_; k_whole))
  k_with "compareOp NotEq ref ref" => (k_here; k_dflt first | (apply ne_nil; (case hy => k_extra "m list"); (case hx => k_extra "m list"); (case hu => exact Calm.u (by with_reducible assumption)); k_whole) | (apply ne_doms; (case hx => k_extra "m tup"); (case px => k_extra "m prs0"); (case hy => k_extra "m tup"); (case py => k_extra "m prs0"); (case hu => k_extra "m unit"); k_whole))
  k_with "call builtin:list.append" => (k_here; (with_reducible show wpAny _ _ (call (Value.builtin _) [Value.ref _, _]) _ _ _); k_dflt (refine' append_L (by k_asm) (by k_asm) (by k_upd) (by first | assumption | omega | (simp only [List.length_append, List.length_cons, List.length_nil]; omega)) ?_; k_whole); intro _ _ N'; (try dsimp only [List.nil_append, List.cons_append] at N'); revert N'; intro _; (try k_sweep))
  k_with "m enter" => (k_extra "m around"; k_extra "m fill"; refine wpAny_call ?_; k_dflt (refine' enter _ (by assumption) (by assumption) (by assumption) (by assumption) (by k_is) (by k_is) (by exact BindsTo.of_eq rfl) (by exact locs rfl) ?_ (by exact rfl) (by exact rfl) (by exact rfl) (by decide); k_whole; intro _ _ _ _ _ _ _ _ _ _ _ _ _ _; (try dsimp only); (try k_fold)))
  k_with "setItem ref int" => (k_here; k_dflt (apply set_L; (case F => k_asm); (case N => k_asm); (case U => k_upd); (case hx => assumption); (case hz => assumption); k_whole); intro _ _ N'; (try dsimp only [List.nil_append, List.cons_append] at N'); revert N'; intro _)
  k_with "setItem ref int" => (k_here; k_dflt (refine' setD_L (by k_asm) (by k_asm) (by k_updF) (by assumption) (by assumption) ?_; k_whole); intro _ _ _ _ _ N'; (try dsimp only [List.nil_append, List.cons_append] at N'); revert N'; intro _)
  k_with "call builtin:list.pop" => (k_here; (with_reducible show wpAny _ _ (call (Value.builtin _) [Value.ref _]) _ _ _); k_dflt (apply pop_L; (case F => k_asm); (case N => k_asm); (case U => k_upd); (case hz => assumption); k_whole); intro _ _ N'; (try dsimp only [List.nil_append, List.cons_append] at N'); revert N'; intro _)
  k_with "m cls" => first | (simp only [ne_eq, Value.type.injEq, reduceCtorEq, not_false_eq_true]; done) | (simp; done) | ((rename Obj.cls _ = Value.type "dict" => hq'); rw [hq']; simp; done)
  k_with "k ne" => first | (refine neN ?_; (try dsimp only); first | k_extra "m ne0" | omega) | exact news_ne (by with_reducible assumption) (by k_mem) (by k_mem) (by k_extra "m cls")
  k_with "k all" => exact allLt_ne (by assumption)
  k_with "m own" => (intro _ _; k_ownIn)
  k_with "m tup" => first | assumption | exact fr_tup (by with_reducible assumption) (by with_reducible assumption) | exact News.isTup (by with_reducible assumption) (by news_mem) | exact InPn.tup (by with_reducible assumption) (by with_reducible assumption) (by with_reducible assumption) (by k_extra "m own")
  k_with "m prs0" => first | exact Prs.mono (Fr.keep (by with_reducible assumption)) (by with_reducible assumption) | with_reducible assumption | exact prs_nil | exact InPn.prs (by with_reducible assumption) (by with_reducible assumption) (by with_reducible assumption) (by k_extra "m own") | k_extra "m prs"
  k_with "m off" => (repeat' first | exact List.forall_mem_nil _ | (refine in_cons ?_ ?_; k_ne))
  k_with "m offall" => (repeat' first | exact List.forall_mem_nil _ | (refine in_cons ?_ ?_; k_all))
  k_with "k inst" => exact instAt_mixed (by assumption) (by assumption) (by assumption) (by k_mem)
  k_with "m full" => first | assumption | exact FullTups.mono (Fr.keep (by with_reducible assumption)) (by assumption)
  k_with "compareOp In ref ref" => (k_here; k_dflt (refine' in_firsts (by k_extra "m list") (by k_extra "m full") (by k_extra "m tup") (by k_extra "m unit") ?_; k_whole))
  k_with "m slice" => first | (apply slice_upto; (case F => k_asm); (case N => k_asm); (case hl => k_extra "m list"); (case hz => first | assumption | omega); (case hk => assumption); (case hj => assumption); (case hs => with_unfolding_all rfl); k_whole) | (apply slice_from; (case F => k_asm); (case N => k_asm); (case hl => k_extra "m list"); (case hz => first | assumption | omega); (case hk => assumption); (case hj => assumption); (case hs => with_unfolding_all rfl); k_whole)
  k_with "subscriptTail Attribute Slice ref ref" => (k_here; k_dflt (k_extra "m slice"); intro _ _ _ _ l'; (k_lt l'); revert l'; intro _; (try k_sweep))
  k_with "subscriptTail Name Slice ref ref" => (k_here; k_dflt (k_extra "m slice"); intro _ _ _ _ l'; (k_lt l'); revert l'; intro _; (try k_sweep))
  k_with "exec While Compare" => (k_here; k_dflt (refine' while_src (by with_reducible assumption) (by passes_own) ?_))
  k_with "call ref" => (k_here; (with_reducible show wpAny _ _ (call (Value.ref 309) _) _ _ _); k_dflt (refine' far_spec (by assumption) (by k_extra "m stays") (by k_extra "m calm") ?_; intro _ _ _ _; k_extra "m kept"))
  k_with "call ref" => (k_here; (with_reducible show wpAny _ _ (call (Value.ref 328) _) _ _ _); k_dflt (refine' many_spec (by assumption) (by k_extra "m stays") (by k_extra "m calm") (by k_extra "m list") (by k_extra "m prs") (by assumption) ?_; intro _ _ _ _; k_extra "m kept"))
  k_with "call ref" => (k_here; (with_reducible show wpAny _ _ (call (Value.ref 335) _) _ _ _); k_dflt (refine' half_spec (by assumption) (by k_extra "m stays") (by k_extra "m calm") (by k_extra "m list") (by k_extra "m prs") (by assumption) ?_; intro _ _ _; k_extra "m kept"))
  k_with "call ref" => (k_here; (with_reducible show wpAny _ _ (call (Value.ref 316) _) _ _ _); (rename Fr _ _ _ _ => kF'); (rename News _ _ _ _ => kN'); k_dflt (apply draw_spec; (case C => assumption); (case hB => k_extra "m stays"); (case hA => k_extra "m calm"); (case hm => exact hm_one kN' (by k_mem) (by with_reducible assumption)); (case hbo => assumption); (case hnm => assumption); (case hcl => k_extra "m list"); (case hcb => assumption); (case hci => assumption); (case hcz => assumption); (case hmany => first | assumption | omega | (simp only [Int.reduceToNat]; omega) | decide); (case hnb => omega); intro hc tkc oc rc tc kc ec bc r0c r1c; (try simp only [Int.reduceToNat] at r1c); (rename Obj.cls _ = Value.type "dict" => hold'); (have FN' := fr_upd kF' kN' (by k_updF) kc ec); (obtain ⟨F', N'⟩ := FN'); clear kF' kN' hold'; (have dcls' := BagIs.cls bc); (try dsimp only at N'); revert hc tkc oc rc tc kc ec bc r0c r1c F' N' dcls'; intro _ _ _ _ _ _ _ _ _ _ _ _ _; (try dsimp only); (try k_fold)))
  k_with "m ints" => (repeat' (first | exact List.forall_mem_nil _ | (refine (in_cons (⟨_, _, rfl, by (try dsimp only); (try simp only [Int.reduceToNat]); omega⟩) (?_)))))
  k_with "subscriptTail" => (k_here; (with_reducible show wpAny _ _ (subscriptTail _ _ (Value.ref _) (Value.int _ _)) _ _ _); first | (apply tup_pick (fun n => 0 ≤ n ∧ n ≤ 10 ^ 15); (case ht => exact News.isTup (by with_reducible assumption) (by k_mem)); (case h0 => assumption); (case h1 => (simp only [List.length_cons, List.length_nil]; omega)); (case hz => (simp only [List.length_cons, List.length_nil]; omega)); (case hall => k_extra "m ints"); k_whole; intro _ _ px; (have px1 := px.1); (have px2 := px.2); clear px; revert px1 px2; intro _ _) | (apply tup_pick (fun n => -(10 ^ 30) ≤ n ∧ n ≤ 10 ^ 30); (case ht => exact News.isTup (by with_reducible assumption) (by k_mem)); (case h0 => assumption); (case h1 => (simp only [List.length_cons, List.length_nil]; omega)); (case hz => (simp only [List.length_cons, List.length_nil]; omega)); (case hall => k_extra "m ints"); k_whole; intro _ _ px; (have px1 := px.1); (have px2 := px.2); clear px; revert px1 px2; intro _ _))
  k_with "newTuple" => (k_here; k_dflt (refine' newTuple_L (by k_asm) (by k_asm) ?_ (by size_fits); k_whole); intro _ _ _ _ l1; (k_lt l1); revert l1; intro _; (try k_sweep))
  k_with "m om" => ((try simp only [Int.reduceToNat]); omega)
  k_with "m for enum" => (k_here; k_dflt (refine' for_enumF (by with_reducible assumption) (by with_unfolding_all rfl) ?_ (by rfl) (by with_unfolding_all rfl) (by with_unfolding_all rfl) (by rfl) (by (intro _; rfl)); k_whole))
  k_with "call type:enumerate" => (k_here; k_dflt (refine' enum_call (by k_asm) (by k_asm) (by k_extra "m list") ?_; k_whole; intro _ _ _ _ _ _ _ _ _ _ _))
  k_with "m lots" => first | assumption | exact LotsAt.mono (Fr.keep (by with_reducible assumption)) (by assumption)
  k_with "call ref" => (k_here; (with_reducible show wpAny _ _ (call (Value.ref 347) _) _ _ _); k_dflt (refine' wanted_spec (by assumption) (by k_extra "m stays") (by k_extra "m calm") (by k_extra "m list") (by k_extra "m lots") (by k_extra "m list") (by assumption) (by assumption) (by assumption) (by k_extra "m list") (by assumption) (by assumption) (by assumption) ?_; intro _ _ _ _ _; k_extra "m kept"))
  k_with "call ref" => (k_here; (with_reducible show wpAny _ _ (call (Value.ref 354) _) _ _ _); k_dflt (refine' place_spec (by assumption) (by k_extra "m stays") (by k_extra "m calm") (by k_extra "m desk") (by k_extra "m br") (by assumption) (by k_extra "m vars") (by assumption) (by assumption) (by assumption) (by assumption) (by k_extra "m list") (by k_extra "m lots") (by assumption) (by assumption) ?_; intro _ _ _; k_extra "m kept"))
  k_with "m perm" => (repeat' first | exact List.forall_mem_nil _ | (refine in_cons ?_ ?_; k_extra "m mem") | (intro _ _; k_ownIn))
  k_with "m list" => first | with_reducible assumption | exact News.isList (by with_reducible assumption) (by k_mem) | exact fr_list (by with_reducible assumption) (by with_reducible assumption)
  k_with "m tup" => first | with_reducible assumption | exact News.isTup (by with_reducible assumption) (by k_mem) | exact fr_tup (by with_reducible assumption) (by with_reducible assumption)
  k_with "subscriptTail Name Slice ref ref" => (k_here; (with_reducible show wpAny _ _ (subscriptTail (PySem.Expr.Name (PySem.Str.ofString "script") _) _ _ _) _ _ _); k_dflt (refine' slice_take (j := 60) (by k_asm) (by k_asm) (by k_extra "m list") (by rfl) (by first | assumption | omega) ?_ (by with_unfolding_all rfl); k_whole); intro _ _ _ _ l'; (k_lt l'); revert l'; intro _; (try k_sweep))
  k_with "call type:list" => (k_here; (with_reducible show wpAny _ _ (call (Value.type _) [Value.ref _]) _ _ _); k_dflt (refine' list_of (by k_asm) (by k_asm) (by k_extra "m list") (by first | assumption | (simp only [List.length_take]; omega)) ?_; k_whole); intro _ _ _ _ _ l'; (k_lt l'); revert l'; intro _; (try k_sweep))
  k_with "exec For Name Call cons nil" => (k_here; k_dflt (refine' for_rangeKF (by with_reducible assumption) (by with_unfolding_all rfl) ?_ (by rfl) (by with_unfolding_all rfl) (by rfl) (by (intro _; rfl)); k_whole))
  k_with "call ref" => (k_here; (with_reducible show wpAny _ _ (call (Value.ref 298) _) _ _ _); k_dflt (refine' store_call (by assumption) (by with_reducible assumption) (by k_asm) (by k_asm) (by k_extra "m calm") ?_; k_whole); intro _ _ _ _ _ _ _ _ _ _ _ _ _ _ _ _ _ _ ls1 _ _ _ _ _ _; (k_lt ls1); revert ls1; intro _; (try dsimp only); (try k_fold))
  k_with "call ref" => (k_here; (with_reducible show wpAny _ _ (call (Value.ref 66) _) _ _ _); k_dflt (refine' brancher_call (by assumption) (by with_reducible assumption) (by k_asm) (by k_asm) (by k_extra "m calm") (by k_mem) (by assumption) ?_; k_whole); intro _ _ _ _ _ _ _ _ _ _ _ _ _ ls1 _ _; (k_lt ls1); revert ls1; intro _; (try dsimp only); (try k_fold))
  k_with "m list" => first | with_reducible assumption | exact News.isList (by with_reducible assumption) (by k_mem) | exact fr_list (by with_reducible assumption) (by with_reducible assumption) | exact LInPn.list (by with_reducible assumption) (by with_reducible assumption) (by with_reducible assumption) (by k_extra "m own") | exact LstPn.list (by with_reducible assumption) (by with_reducible assumption) (by with_reducible assumption) (by k_extra "m own")
  k_with "m nt1" => first | (simp; done) | (simp only [ne_eq]; rw [‹Obj.cls _ = Value.type "dict"›]; simp; done) | assumption | (exact fun q => by (rw [IntDictIs.cls (by assumption)] at q; simp at q))
  k_with "m nt" => (repeat' first | exact NotTupN.nil | refine NotTupN.cons (by k_extra "m mem") (by k_extra "m nt1") ?_)
  k_with "k all" => exact OwnOff.at (by with_reducible assumption) (by k_mem)
  k_with "k ne" => first | exact Apart.ne (by with_reducible assumption) | exact (Apart.ne (by with_reducible assumption)).symm | exact news_ne (by with_reducible assumption) (by k_mem) (by k_mem) (by k_extra "m cls") | (refine neN ?_; (try dsimp only); first | k_extra "m ne0" | omega)
  k_with "m lots" => first | with_reducible assumption | exact LPn.at (by with_reducible assumption) (by with_reducible assumption) (by with_reducible assumption) (by k_extra "m own")
  k_with "m vars" => first | with_reducible assumption | exact VPn.at (by with_reducible assumption) (by with_reducible assumption) (by with_reducible assumption) (by k_extra "m own")
  k_with "m desk" => first | with_reducible assumption | exact DeskR.ofLed (by with_reducible assumption) (by k_mem) (by k_mem) (by k_mem)
  k_with "m br" => first | with_reducible assumption | exact BrR.ofLed (by with_reducible assumption) (by with_reducible assumption) (by with_reducible assumption) (by k_extra "m own") (by k_mem) (by k_mem) (by with_reducible assumption)
  k_with "m prs" => first | with_reducible assumption | exact InPn.prs (by with_reducible assumption) (by with_reducible assumption) (by with_reducible assumption) (by k_extra "m own") | exact LInPn.prs (by with_reducible assumption) (by with_reducible assumption) (by with_reducible assumption) (by k_extra "m own") | exact Prs.mono (Fr.keep (by with_reducible assumption)) (by with_reducible assumption)
  k_with "m tup" => first | with_reducible assumption | exact News.isTup (by with_reducible assumption) (by k_mem) | exact InPn.tup (by with_reducible assumption) (by with_reducible assumption) (by with_reducible assumption) (by k_extra "m own") | exact fr_tup (by with_reducible assumption) (by with_reducible assumption)
  k_with "binaryOp Add ref ref" => (k_here; (with_reducible show wpAny _ _ (binaryOp _ (Value.ref _) (Value.ref _)) _ _ _); k_dflt (refine' add_L (by k_asm) (by k_asm) (by k_extra "m list") (by k_extra "m list") (by first | assumption | ((simp only [List.length_append, List.length_cons, List.length_nil, List.length_take, List.length_drop]); omega)) ?_; k_whole); intro _ _ _ _ l'; (k_lt l'); revert l'; intro _; (try k_sweep))
  k_with "call ref" => (k_here; (with_reducible show wpAny _ _ (call (Value.ref 354) _) _ _ _); k_dflt (refine' place_spec (by assumption) (by k_extra "m stays") (by k_extra "m calm") (by k_extra "m desk") (by k_extra "m br") (by assumption) (by k_extra "m vars") (by assumption) (by assumption) (by assumption) (by assumption) (by k_extra "m list") (by k_extra "m lots") (by exact place_zz (by assumption) (by assumption)) (by assumption) ?_; intro _ _ _; k_extra "m kept"))
  k_with "m cls" => first | (simp only [ne_eq, Value.type.injEq, reduceCtorEq, not_false_eq_true]; done) | (simp; done) | ((rename Obj.cls _ = Value.type "dict" => hq'); rw [hq']; simp; done) | ((rename IntDictIs _ _ => hq'); rw [hq'.1]; simp; done)
  k_with "m perm2" => (repeat' first | exact List.forall_mem_nil _ | (refine in_cons ?_ ?_; first | with_reducible assumption | k_extra "m mem") | (intro _ _; k_ownIn))
  trivial
section
theorem off98c : True := by
  w_top off
  trivial
theorem own98c_1 : True := by
  k_with "call ref" => (k_here; (with_reducible show wpAny _ _ (call (Value.ref 288) _) _ _ _); k_dflt (refine' depth_spec (by assumption) (by k_extra "m stays") (by k_extra "m calm") (by exact News.get (by with_reducible assumption) (by k_mem)) (by exact News.get (by with_reducible assumption) (by k_mem)) (by exact News.isList (by with_reducible assumption) (by k_mem)) (by assumption) ?_; intro _ _ _ _; k_extra "m kept"))
  trivial
set_option pp.deepTerms false
set_option pp.deepTerms.threshold 4
theorem law_end {w : World} {mean : ExcName → Option Value} {mg mb : PySem.Str → Option Value} {s : Shared} {g : Heap} {fa : Addr} {cd : Value} {L : Addr} {Q : Flow → Shared → Prop} {E : Value → Shared → Prop} {P : Fx} {i : Nat} {h : Heap} {tk : Nat} {ob : Obj} {ml nd sl ll : Addr} {dv tr ms sv lv : List Value} {od : Obj} {nn : Nat} {cur : List Rng} {hist : List (List Rng)} {es : List (Nat × Value)} {pn : List (Addr × Obj)} {nb : Nat}
    {hs : Nat → Int} {ts : Nat → Tok} {vsp vi vc : Value} {n1 n2 n3 n4 : Nat} {u1 u2 u3 u4 u5 u6 u7 u8 u9 u10 : Option Value}
    (C : Core w mean mg mb g) (hA : Calm (callerA.deeper (lawEnv L fa cd)) 20) (hoc : P.ocl.data = .cell (some (.ref P.b))) (hP : Plain P) (hi : i ≤ 8) (J : JF w g L P i ob ml nd sl ll dv tr ms sv lv od nn cur hist es pn nb) (hnb : nb ≤ 500 + 10 * i)
    (F5 : Fr g L h (ov (mapOf P ll sl u1 u2 u3 u4 u5 u6 u7 u8 u9 u10) P.m0)) (N5 : News g L h (ledOf L P ob hs ts ml nd vsp vi vc dv tr ms sv n1 n2 n3 n4 od sl pn))
    (hret : ∀ h tk m, Fr g L h m → Q (.ret (.bool true)) { s with heap := h, toks := tk }) :
    wpAny (model PR w) (callerA.deeper (lawEnv L fa cd)) (execs (lawBody.drop 9) (lawEnv L fa cd)) Q E { s with heap := h, toks := tk } := by
  dsimp only [mapOf, ledOf] at F5 N5
  obtain ⟨hbag, hnb9, hoff, ⟨ap1, ap2, ap3, ap4, ap5, ap6, ap7, ap8, ap9, ap10, ap11, ap12⟩, ⟨aL1, aL2, aL3, aL4, aL5, aL6, aL7⟩, hTl, hV, hLs, hLp, hTr, hHi, hcur, hhist, hhl, hms, hes, hod, hnn⟩ := J
  clear hnb9
  have X := C.X
  have T := C.T
  have kk : Stays g g := fun _ _ e => e
  k_extra "m fill"
  conv => arg 3; arg 1; whnf
  obtain ⟨sc, hsc⟩ : ∃ sc, sc = lawScope := ⟨_, rfl⟩
  simp only [lawEnv, ← hsc] at hA ⊢
  conv at hsc => rhs; whnf
  subst hsc
  try k_fold
  have hbc := hbag.cls
  have hbB : g.get? P.b = none := (N5 (P.b, ob) (by k_mem)).2.2
  have hci := hP.cells
  have hcz := hP.cz
  have hbn := hP.bn
  have hcab := hP.cab
  have htl1 := hTl.rl
  have htl2 := hTl.gl
  have ho5 := hP.o5
  have hrow := hP.row
  have hrz := hP.rz
  have hdgn := hP.dgn
  have hm3 := hP.many
  have hcl : cur.length = P.many := hcur.1
  have hrin : ∀ x ∈ P.row, x < cur.length := by rw [hcl]; exact hP.rin
  have hdgv : IntsAre P.dgv ((List.range cur.length).map P.deg) := by rw [hcl]; exact hP.dgv
  have hdgs : DegsAt P.f P.deg cur.length := by rw [hcl]; exact hP.dgs
  have hcz1 : cur.length ≤ 1000 := by omega
  have hhalf : ∀ (x : Nat) rs, cur[x]? = some rs → halfOf rs (medianOf rs) = true := fun x rs e => half_median (hcur.2 rs (List.mem_of_getElem? e)).1 (hcur.2 rs (List.mem_of_getElem? e)).2.1
  have hwn := wanted_next (o := P.o) (deg := P.deg) (fun rs hr => ⟨(hcur.2 rs hr).1, (hcur.2 rs hr).2.1⟩) hrin ho5
  have hmsl : ms.length = hist.length := by
    have := IntsAre.length hms
    simpa using this
  have hmsz : ms.length ≤ 1000 := by omega
  have hsvl : sv.length = hist.length := hHi.1
  have hmsv : (ms.length : Int) = (sv.length : Int) := by omega
  k_steps
  rename Fr _ _ _ _ => Ff
  have eb : ((ms.length : Int) == (sv.length : Int)) = true := by rw [hmsv]; exact beq_self_eq_true _
  rw [eb]
  exact hret _ _ _ Ff
theorem law_c {w : World} {mean : ExcName → Option Value} {mg mb : PySem.Str → Option Value} {s : Shared} {g : Heap} {fa : Addr} {cd : Value} {L : Addr} {Q : Flow → Shared → Prop} {E : Value → Shared → Prop} {P : Fx} {ob : Obj} {ml nd sl ll : Addr} {dv tr ms sv lv : List Value} {od : Obj} {nn : Nat} {cur : List Rng} {hist : List (List Rng)} {es : List (Nat × Value)} {pn : List (Addr × Obj)} {nb : Nat}
    {hs : Nat → Int} {ts : Nat → Tok} {vsp vi vc : Value} {n1 n2 n3 n4 : Nat} {u1 u2 u3 u4 u5 u6 u7 u8 u9 u10 : Option Value}
    (C : Core w mean mg mb g) (hA : Calm (callerA.deeper (lawEnv L fa cd)) 20) (hoc : P.ocl.data = .cell (some (.ref P.b))) (hP : Plain P) (J : JF w g L P 0 ob ml nd sl ll dv tr ms sv lv od nn cur hist es pn nb) (hnb : nb ≤ 400)
    (F : Fr g L s.heap (ov (mapOf P ll sl u1 u2 u3 u4 u5 u6 u7 u8 u9 u10) P.m0)) (N : News g L s.heap (ledOf L P ob hs ts ml nd vsp vi vc dv tr ms sv n1 n2 n3 n4 od sl pn))
    (hret : ∀ h tk m, Fr g L h m → Q (.ret (.bool true)) { s with heap := h, toks := tk }) :
    wpAny (model PR w) (callerA.deeper (lawEnv L fa cd)) (execs (lawBody.drop 8) (lawEnv L fa cd)) Q E s := by
  have X := C.X
  have T := C.T
  have kk : Stays g g := fun _ _ e => e
  k_extra "m fill"
  conv => arg 3; arg 1; whnf
  obtain ⟨sc, hsc⟩ : ∃ sc, sc = lawScope := ⟨_, rfl⟩
  have hA0 := hA
  simp only [lawEnv, ← hsc] at hA ⊢
  conv at hsc => rhs; whnf
  subst hsc
  try k_fold
  have J0 := J
  obtain ⟨hbag, hnb0, hoff, ⟨ap1, ap2, ap3, ap4, ap5, ap6, ap7, ap8, ap9, ap10, ap11, ap12⟩, ⟨aL1, aL2, aL3, aL4, aL5, aL6, aL7⟩, hTl, hV, hLs, hLp, hTr, hHi, hcur, hhist, hhl, hms, hes, hod, hnn⟩ := J
  have hbc := hbag.cls
  have hbB : g.get? P.b = none := (N (P.b, ob) (by k_mem)).2.2
  have hci := hP.cells
  have hcz := hP.cz
  have hbn := hP.bn
  have hcab := hP.cab
  have htl3 := hTl.ca
  k_steps
  rename_i h1 tk1 ob1 rc tc k1 e1 bag1 rc0 rc1 F1 N1 cls1 h6 tk6 t6 u6' v6 R3 F3 N3 k3
  obtain ⟨n, rfl⟩ := Int.eq_ofNat_of_zero_le rc0
  clear F1 N1 e1 k1
  refine ⟨_, n, _, _, _, JMain w g L P, _, ledOf L P ob1 hs ts ml nd vsp vi vc dv tr ms sv n1 n2 n3 n4 od sl pn, rfl, R3, by omega, F3, news_sub N3 (by k_extra "m perm2"), jMain_of (ll := ll) (lv := lv) (cur := cur) (hist := hist) (es := es) (nn := nn) (nb := nb + 1) ⟨bag1, by omega, hoff, ⟨ap1, ap2, ap3, ap4, ap5, ap6, ap7, ap8, ap9, ap10, ap11, ap12⟩, ⟨aL1, aL2, aL3, aL4, aL5, aL6, aL7⟩, hTl, hV, hLs, hLp, hTr, hHi, hcur, hhist, hhl, hms, hes, hod, hnn⟩ (by omega) rfl, ?_, ?_⟩
  · intro i h tk m I oI news ti E' hi hJ F5 N5 hne5 hoI
    obtain ⟨ob, hs, ts, ml, nd, vsp, vi, vc, dv, tr, ms, sv, n1, n2, n3, n4, od, nn, sl, ll, lv, cur, hist, es, pn, nb, u1, u2, u3, u4, u5, u6, u7, u8, u9, u10, rfl, rfl, J, hn⟩ := hJ
    exact law_turn C hA0 hoc hP (by omega) J hn F5 N5 hne5 hoI
  · intro h tk m news hJ F5 N5
    obtain ⟨ob, hs, ts, ml, nd, vsp, vi, vc, dv, tr, ms, sv, n1, n2, n3, n4, od, nn, sl, ll, lv, cur, hist, es, pn, nb, u1, u2, u3, u4, u5, u6, u7, u8, u9, u10, rfl, rfl, J, hn⟩ := hJ
    exact law_end C hA0 hoc hP (by omega) J hn F5 N5 hret

end
theorem rows98c : True := by
  k_with_none
  k_with "m mem" => first | exact mem0 | exact mem1 | exact mem2 | exact mem3 | (refine' mem4 ?_; k_extra "m mem")
  k_with "k ne" => (refine neN ?_; (try dsimp only); k_extra "m ne0")
  k_with "m lt0" => first | with_reducible assumption | (refine lt_from (by with_reducible assumption) ?_; intro hh; first | exact hh.1 | exact hh.2 | exact hh.2.1 | exact hh.2.2 | exact hh.2.2.1 | exact hh.2.2.2 | exact hh.2.2.2.1 | exact hh.2.2.2.2 | exact hh.2.2.2.2.1 | exact hh.2.2.2.2.2 | exact hh.2.2.2.2.2.1 | exact hh.2.2.2.2.2.2 | exact hh.2.2.2.2.2.2.1 | exact hh.2.2.2.2.2.2.2 | exact hh.2.2.2.2.2.2.2.1 | exact hh.2.2.2.2.2.2.2.2 | exact hh.2.2.2.2.2.2.2.2.1 | exact hh.2.2.2.2.2.2.2.2.2 | exact hh.2.2.2.2.2.2.2.2.2.1 | exact hh.2.2.2.2.2.2.2.2.2.2 | exact hh.2.2.2.2.2.2.2.2.2.2.1 | exact hh.2.2.2.2.2.2.2.2.2.2.2 | exact hh.2.2.2.2.2.2.2.2.2.2.2.1 | exact hh.2.2.2.2.2.2.2.2.2.2.2.2 | exact hh.2.2.2.2.2.2.2.2.2.2.2.2.1 | exact hh.2.2.2.2.2.2.2.2.2.2.2.2.2 | exact hh.2.2.2.2.2.2.2.2.2.2.2.2.2.1 | exact hh.2.2.2.2.2.2.2.2.2.2.2.2.2.2 | exact hh.2.2.2.2.2.2.2.2.2.2.2.2.2.2.1 | exact hh.2.2.2.2.2.2.2.2.2.2.2.2.2.2.2 | exact hh.2.2.2.2.2.2.2.2.2.2.2.2.2.2.2.1 | exact hh.2.2.2.2.2.2.2.2.2.2.2.2.2.2.2.2 | exact hh.2.2.2.2.2.2.2.2.2.2.2.2.2.2.2.2.1 | exact hh.2.2.2.2.2.2.2.2.2.2.2.2.2.2.2.2.2 | exact hh.2.2.2.2.2.2.2.2.2.2.2.2.2.2.2.2.2.1 | exact hh.2.2.2.2.2.2.2.2.2.2.2.2.2.2.2.2.2.2 | exact hh.2.2.2.2.2.2.2.2.2.2.2.2.2.2.2.2.2.2.1 | exact hh.2.2.2.2.2.2.2.2.2.2.2.2.2.2.2.2.2.2.2 | exact hh.2.2.2.2.2.2.2.2.2.2.2.2.2.2.2.2.2.2.2.1 | exact hh.2.2.2.2.2.2.2.2.2.2.2.2.2.2.2.2.2.2.2.2 | exact hh.2.2.2.2.2.2.2.2.2.2.2.2.2.2.2.2.2.2.2.2.1 | exact hh.2.2.2.2.2.2.2.2.2.2.2.2.2.2.2.2.2.2.2.2.2 | exact hh.2.2.2.2.2.2.2.2.2.2.2.2.2.2.2.2.2.2.2.2.2.1 | exact hh.2.2.2.2.2.2.2.2.2.2.2.2.2.2.2.2.2.2.2.2.2.2)
  k_with "m lt" => first | k_extra "m lt0" | omega
  k_with "m ne0" => first | with_reducible assumption | exact Ne.symm (by with_reducible assumption) | exact Nat.ne_of_lt (by k_extra "m lt0") | exact Nat.ne_of_gt (by k_extra "m lt0")
  k_with "m fill" => (have hfill : Challenge.rw_pq0372_01 = Challenge.rw_pq0372_01 ∧ KF = KF := (by k_fill; exact ⟨rfl, rfl⟩); clear hfill)
  k_with "m around" => ((rename Around => mA'); (rcases mA' with ⟨_, _, _, _, _⟩); (have mE' := Calm.hh (by with_reducible assumption)); (dsimp only at mE'); subst mE')
  k_with "m enter0" => (k_extra "m around"; k_extra "m fill"; refine wpAny_call ?_; k_dflt (refine' enter0 (by assumption) (by assumption) (by assumption) (by k_is) (by k_is) (by exact BindsTo.of_eq rfl) (by exact locs rfl) ?_ (by exact rfl) (by exact rfl) (by exact rfl) (by decide); k_whole; intro _ _ _ _ _ _ _ _ _; (try dsimp only); (try k_fold)))
  k_with "m enterC0" => (k_extra "m around"; k_extra "m fill"; refine wpAny_call ?_; k_dflt (refine' enterC0 (by assumption) (by assumption) (by assumption) (by k_is) (by k_is) (by exact BindsTo.of_eq rfl) (by rfl) (by decide) ?_ (by exact rfl) (by exact rfl) (by exact rfl); k_whole; intro _ _ _ _ _ _ _ _ _ _ _; (try dsimp only); (try k_fold)))
  k_with "m cell1" => ((rename CellsAre _ _ _ => mY'); (with_unfolding_all have mY2' := CellsAre.one mY'); (obtain ⟨_, me', _⟩ := mY2'); (subst me'); clear mY')
  k_with "m cell2" => ((rename CellsAre _ _ _ => mY'); (with_unfolding_all have mY2' := CellsAre.two mY'); (obtain ⟨_, _, me', _, _⟩ := mY2'); (subst me'); clear mY')
  k_with "m tup" => first | assumption | exact fr_tup (by with_reducible assumption) (by with_reducible assumption) | exact News.isTup (by with_reducible assumption) (by news_mem)
  k_with "m list" => first | assumption | exact fr_list (by with_reducible assumption) (by with_reducible assumption) | exact News.isList (by with_reducible assumption) (by news_mem)
  k_with "call builtin:len" => (k_here; (with_reducible show wpAny _ _ (call (Value.builtin "len") [Value.ref _]) _ _ _); k_dflt first | (refine' len_tup (by k_extra "m tup") (by first | assumption | (with_reducible decide) | omega | (simp only [List.length_append, List.length_cons, List.length_nil]; first | decide | omega)) ?_; k_whole; intro _ _) | (refine' len_lst (by k_extra "m list") (by first | assumption | (with_reducible decide) | omega | (simp only [List.length_append, List.length_cons, List.length_nil]; first | decide | omega)) ?_; k_whole; intro _ _))
  k_with "subscriptTail" => (k_here; (with_reducible show wpAny _ _ (subscriptTail _ _ (Value.ref _) (Value.int (-1) _)) _ _ _); (with_unfolding_all refine' tup_last (by k_extra "m tup") (by first | assumption | rfl) ?_ (by with_unfolding_all rfl); k_whole))
  k_with "subscriptTail" => (k_here; (with_reducible show wpAny _ _ (subscriptTail _ _ (Value.ref _) (Value.int _ _)) _ _ _); (with_unfolding_all apply tup_at); (case ht => k_extra "m tup"); (first | ((case hk => with_unfolding_all rfl); (case hx => first | assumption | rfl)) | ((case hx => assumption); (case hk => omega))); (case hf => first | decide | omega); (case hs => with_unfolding_all rfl); k_whole)
  k_with "subscriptTail" => (k_here; (with_reducible show wpAny _ _ (subscriptTail _ _ (Value.ref _) (Value.int _ _)) _ _ _); (with_unfolding_all apply list_at); (case ht => k_extra "m list"); (first | ((case hk => with_unfolding_all rfl); (case hx => first | assumption | rfl)) | ((case hx => assumption); (case hk => omega))); (case hf => first | decide | omega); (case hs => with_unfolding_all rfl); k_whole)
  k_with "k inst" => exact instAt_base (by assumption) (by assumption) (by assumption)
  k_with "m stays" => first | with_reducible assumption | exact stays_fr (by with_reducible assumption) (by with_reducible assumption)
  k_with "m calm" => exact Calm.le (by assumption) (by decide)
  k_with "m kept" => ((rename Fr _ _ _ _ => kF'); (rename News _ _ _ _ => kN'); (refine kept_of (by with_reducible assumption) kF' kN' ?_); clear kF' kN'; intro _ _; (try dsimp only); (try k_fold))
  k_with "eval Name" => ((with_reducible show wpAny _ _ (eval (Expr.Name _ _) (compEnvC _ _ _ _)) _ _ _); k_dflt first | (apply comp_local; (case F => with_reducible assumption); (case hk => rfl); (case hl => with_unfolding_all rfl); (case hd => decide); (case hm => first | with_reducible assumption | with_unfolding_all rfl); k_whole) | (apply comp_cell; (case F => with_reducible assumption); (case hk => rfl); (case hl => with_unfolding_all rfl); (case hd => decide); (case hc => with_unfolding_all rfl); (case ho => assumption); (case hv => with_reducible assumption); k_whole) | (apply comp_builtin; (case F => with_reducible assumption); (case T => with_reducible assumption); (case k => with_reducible assumption); (case hg => rfl); (case hb => rfl); (case hk => rfl); (case hx => with_unfolding_all rfl); (case hd => decide); (case h2 => first | exact mb_max (by with_reducible assumption) | exact mb_min (by with_reducible assumption)); (case h1 => first | exact mg_max (by with_reducible assumption) | exact mg_min (by with_reducible assumption)); k_whole))
  k_with "call builtin:max" => ((with_reducible show wpAny _ _ (call (Value.builtin _) [Value.int _ _, Value.int _ _]) _ _ _); k_dflt (refine' comp_max (by with_reducible assumption) (by first | exact Calm.hh (by assumption) | with_unfolding_all rfl) ?_; k_whole; intro _ _ _ _ _))
  k_with "call builtin:min" => ((with_reducible show wpAny _ _ (call (Value.builtin _) [Value.int _ _, Value.int _ _]) _ _ _); k_dflt (refine' comp_min (by with_reducible assumption) (by first | exact Calm.hh (by assumption) | with_unfolding_all rfl) ?_; k_whole; intro _ _ _ _ _))
  k_with "newTuple" => (k_dflt (refine' comp_tuple (by with_reducible assumption) ?_ (by rfl); k_whole; intro _ _ _ _))
  k_with "call type:tuple" => ((with_reducible show wpAny _ _ (call (Value.type _) [Value.ref _]) _ _ _); k_dflt (refine' tuple_of (by with_reducible assumption) (by with_reducible assumption) (by k_extra "m list") (by first | assumption | omega) ?_; k_whole; intro _ _ _ _ _ _))
  k_with "call ref" => (k_here; (with_reducible show wpAny _ _ (call (Value.ref 77) _) _ _ _); k_dflt (refine' least_spec (by assumption) (by k_extra "m stays") (by k_extra "m calm") (by k_extra "m tup") (by assumption) (by k_extra "m tup") ?_; intro _ _ _ _; k_extra "m kept"))
  k_with "call ref" => (k_here; (with_reducible show wpAny _ _ (call (Value.ref 84) _) _ _ _); k_dflt (refine' greatest_spec (by assumption) (by k_extra "m stays") (by k_extra "m calm") (by k_extra "m tup") (by assumption) (by k_extra "m tup") ?_; intro _ _ _ _; k_extra "m kept"))
  k_with "call ref" => (k_here; (with_reducible show wpAny _ _ (call (Value.ref 183) _) _ _ _); k_dflt (refine' dom_spec (by assumption) (by k_extra "m stays") (by k_extra "m calm") (by k_extra "m desk") (by assumption) (by assumption) ?_; intro _ _ _; k_extra "m kept"))
  k_with "call ref" => (k_here; (with_reducible show wpAny _ _ (call (Value.ref 197) _) _ _ _); k_dflt (refine' low_spec (by assumption) (by k_extra "m stays") (by k_extra "m calm") (by k_extra "m desk") (by assumption) (by assumption) (by k_extra "m tup") (by assumption) (by k_extra "m tup") ?_; intro _ _ _ _; k_extra "m kept"))
  k_with "call ref" => (k_here; (with_reducible show wpAny _ _ (call (Value.ref 204) _) _ _ _); k_dflt (refine' high_spec (by assumption) (by k_extra "m stays") (by k_extra "m calm") (by k_extra "m desk") (by assumption) (by assumption) (by k_extra "m tup") (by assumption) (by k_extra "m tup") ?_; intro _ _ _ _; k_extra "m kept"))
  k_with "call ref" => (k_here; (with_reducible show wpAny _ _ (call (Value.ref 89) _) _ _ _); k_dflt (refine' size_spec (by assumption) (by k_extra "m stays") (by k_extra "m calm") (by k_extra "m tup") (by first | assumption | exact Prs.mono (Fr.keep (by with_reducible assumption)) (by with_reducible assumption)) (by assumption) ?_; intro _ _ _ _; k_extra "m kept"))
  k_with "m prs" => first | with_reducible assumption | exact Prs.mono (Fr.keep (by with_reducible assumption)) (by with_reducible assumption)
  k_with "call ref" => (k_here; (with_reducible show wpAny _ _ (call (Value.ref 108) _) _ _ _); k_dflt (refine' upTo_spec (by assumption) (by k_extra "m stays") (by k_extra "m calm") (by k_extra "m tup") (by k_extra "m prs") (by assumption) ?_; intro _ _ _ kc dc; (obtain ⟨ac, vc, ec, tc, pc⟩ := dc); subst ec; revert kc ac vc tc pc; intro _ _ _ _ _; k_extra "m kept"))
  k_with "call ref" => (k_here; (with_reducible show wpAny _ _ (call (Value.ref 113) _) _ _ _); k_dflt (refine' fromOn_spec (by assumption) (by k_extra "m stays") (by k_extra "m calm") (by k_extra "m tup") (by k_extra "m prs") (by assumption) ?_; intro _ _ _ kc dc; (obtain ⟨ac, vc, ec, tc, pc⟩ := dc); subst ec; revert kc ac vc tc pc; intro _ _ _ _ _; k_extra "m kept"))
  k_with "call ref" => (k_here; (with_reducible show wpAny _ _ (call (Value.ref 120) _) _ _ _); k_dflt (refine' without_spec (by assumption) (by k_extra "m stays") (by k_extra "m calm") (by k_extra "m tup") (by k_extra "m prs") (by assumption) ?_; intro _ _ _ kc dc; (obtain ⟨ac, vc, ec, tc, pc⟩ := dc); subst ec; revert kc ac vc tc pc; intro _ _ _ _ _; k_extra "m kept"))
  k_with "call ref" => (k_here; (with_reducible show wpAny _ _ (call (Value.ref 141) _) _ _ _); k_dflt (refine' struck_spec (by assumption) (by k_extra "m stays") (by k_extra "m calm") (by assumption) (by first | assumption | exact LitAt.mono (Fr.keep (by with_reducible assumption)) (by with_reducible assumption)) (by k_extra "m tup") (by k_extra "m prs") (by assumption) ?_; intro _ _ _ kc dc; (obtain ⟨ac, vc, ec, tc, pc⟩ := dc); subst ec; revert kc ac vc tc pc; intro _ _ _ _ _; k_extra "m kept"))
  k_with "m desk" => first | assumption | exact DeskR.mono (Fr.keep (by with_reducible assumption)) (by assumption) | exact DeskR.mono (by with_reducible assumption) (by assumption)
  k_with "call ref" => (k_here; (with_reducible show wpAny _ _ (call (Value.ref 232) _) _ _ _); k_dflt (refine' width_spec (by assumption) (by k_extra "m stays") (by k_extra "m calm") (by k_extra "m desk") (by assumption) (by assumption) (by k_extra "m tup") (by k_extra "m prs") (by assumption) ?_; intro _ _ _ _; k_extra "m kept"))
  k_with "call ref" => (k_here; (with_reducible show wpAny _ _ (call (Value.ref 218) _) _ _ _); k_dflt (refine' is_fixed_spec (by assumption) (by k_extra "m stays") (by k_extra "m calm") (by k_extra "m desk") (by assumption) (by assumption) (by k_extra "m tup") (by k_extra "m prs") (by assumption) (by assumption) ?_; intro _ _ _; k_extra "m kept"))
  k_with "m in" => (repeat' (first | exact List.forall_mem_nil _ | (refine in_cons ?_ ?_; (with_unfolding_all rfl))))
  k_with "m out" => (intro my' mhy'; (repeat' first | (with_reducible exact rfl) | refine out_mem mhy' (by with_reducible k_extra "m mem") ?_ | refine out_rmem mhy' (by with_reducible k_extra "m mem") ?_ | refine out_same mhy' ?_ _ (by rfl) | refine out_ov mhy' ?_ _ (by kernel_rfl)))
  k_with "m sub" => (intro mp' mhp'; (simp only [List.mem_cons, List.not_mem_nil, or_false, List.mem_append] at mhp' ⊢); (first | exact mhp' | (rcases mhp' with mhp' | mhp' <;> simp [mhp']) | simp [mhp']))
  k_with "m for range" => (k_here; k_dflt (refine' for_rangeF (by with_reducible assumption) (by with_unfolding_all rfl) ?_ (by rfl) (by with_unfolding_all rfl) (by rfl) (by (intro _; rfl)); k_whole))
  k_with "m for tup" => (k_here; k_dflt (refine' for_tupF (by with_reducible assumption) (by with_unfolding_all rfl) ?_ (by rfl) (by with_unfolding_all rfl) (by rfl) (by (intro _; rfl)); k_whole))
  k_with "m for pairs" => (k_here; k_dflt (refine' for_pairsF (by with_reducible assumption) (by with_unfolding_all rfl) ?_ (by rfl) (by with_unfolding_all rfl) (by with_unfolding_all rfl) (by rfl) (by (intro _; rfl)); k_whole))
  k_with "call ref" => (k_here; (with_reducible show wpAny _ _ (call (Value.ref 56) _) _ _ _); k_dflt (refine' median_spec (by assumption) (by k_extra "m stays") (by k_extra "m calm") (by k_extra "m desk") (by assumption) (by assumption) (by k_extra "m tup") (by k_extra "m prs") (by assumption) (by assumption) ?_; intro _ _ _ _; k_extra "m kept"))
  k_with "m map" => first | assumption | exact fr_map (by with_reducible assumption) (by with_reducible assumption)
  k_with "m br" => first | assumption | exact BrR.mono (Fr.keep (by with_reducible assumption)) (by assumption) | exact BrR.mono (by with_reducible assumption) (by assumption)
  k_with "call ref" => (k_here; (with_reducible show wpAny _ _ (call (Value.ref 42) _) _ _ _); k_dflt (refine' rank_spec (by assumption) (by k_extra "m stays") (by k_extra "m calm") (by k_extra "m desk") (by k_extra "m br") (by assumption) (by assumption) (by assumption) (by assumption) (by k_extra "m tup") (by k_extra "m prs") (by assumption) (by assumption) ?_; intro _ _ _ _ _ kc fc oc; (rename Fr _ _ _ _ => kF'); (rename News _ _ _ _ => kN'); (have F' := Fr.keeps kF' kc); (have N' := news_fresh kF' kN' kc fc oc); clear kF' kN'; revert kc fc oc F' N'; intro _ _ _ _ _; (try dsimp only); (try k_fold)))
  k_with "m vars" => first | assumption | exact VarsAt.mono (Fr.keep (by with_reducible assumption)) (by assumption) | exact VarsAt.mono (by with_reducible assumption) (by assumption)
  k_with "call ref" => (k_here; (with_reducible show wpAny _ _ (call (Value.ref 49) _) _ _ _); k_dflt (refine' next_spec' (by assumption) (by k_extra "m stays") (by k_extra "m calm") (by k_extra "m desk") (by k_extra "m br") (by assumption) (by k_extra "m vars") (by assumption) (by assumption) (by assumption) (by assumption) (by assumption) ?_; intro _ _ _ _; k_extra "m kept"))
  k_with "call ref" => (k_here; (with_reducible show wpAny _ _ (call (Value.ref 63) _) _ _ _); k_dflt (refine' choose_spec (by assumption) (by k_extra "m stays") (by k_extra "m calm") (by k_extra "m desk") (by k_extra "m br") (by assumption) (by k_extra "m vars") (by assumption) (by assumption) (by assumption) (by assumption) ?_; intro _ _ _ _ _; k_extra "m kept"))
  k_with "m unit" => first | exact Calm.u1 (by with_reducible assumption)
  k_with "m prs0" => first | exact Prs.mono (Fr.keep (by with_reducible assumption)) (by with_reducible assumption) | with_reducible assumption | exact prs_nil | k_extra "m prs"
  k_with "compareOp Eq ref ref" => (k_here; k_dflt (refine' eq_doms (by k_extra "m tup") (by k_extra "m prs0") (by k_extra "m tup") (by k_extra "m prs0") (by k_extra "m unit") ?_; k_whole))
  k_with "compareOp NotEq ref ref" => (k_here; k_dflt first | (apply ne_nil; (case hy => k_extra "m list"); (case hx => k_extra "m list"); (case hu => exact Calm.u (by with_reducible assumption)); k_whole) | (apply ne_doms; (case hx => k_extra "m tup"); (case px => k_extra "m prs0"); (case hy => k_extra "m tup"); (case py => k_extra "m prs0"); (case hu => k_extra "m unit"); k_whole))
  k_with "call builtin:list.append" => (k_here; (with_reducible show wpAny _ _ (call (Value.builtin _) [Value.ref _, _]) _ _ _); k_dflt (refine' append_L (by k_asm) (by k_asm) (by k_upd) (by first | assumption | omega | (simp only [List.length_append, List.length_cons, List.length_nil]; omega)) ?_; k_whole); intro _ _ N'; (try dsimp only [List.nil_append, List.cons_append] at N'); revert N'; intro _; (try k_sweep))
  k_with "m enter" => (k_extra "m around"; k_extra "m fill"; refine wpAny_call ?_; k_dflt (refine' enter _ (by assumption) (by assumption) (by assumption) (by assumption) (by k_is) (by k_is) (by exact BindsTo.of_eq rfl) (by exact locs rfl) ?_ (by exact rfl) (by exact rfl) (by exact rfl) (by decide); k_whole; intro _ _ _ _ _ _ _ _ _ _ _ _ _ _; (try dsimp only); (try k_fold)))
  k_with "setItem ref int" => (k_here; k_dflt (apply set_L; (case F => k_asm); (case N => k_asm); (case U => k_upd); (case hx => assumption); (case hz => assumption); k_whole); intro _ _ N'; (try dsimp only [List.nil_append, List.cons_append] at N'); revert N'; intro _)
  k_with "setItem ref int" => (k_here; k_dflt (refine' setD_L (by k_asm) (by k_asm) (by k_updF) (by assumption) (by assumption) ?_; k_whole); intro _ _ _ _ _ N'; (try dsimp only [List.nil_append, List.cons_append] at N'); revert N'; intro _)
  k_with "call builtin:list.pop" => (k_here; (with_reducible show wpAny _ _ (call (Value.builtin _) [Value.ref _]) _ _ _); k_dflt (apply pop_L; (case F => k_asm); (case N => k_asm); (case U => k_upd); (case hz => assumption); k_whole); intro _ _ N'; (try dsimp only [List.nil_append, List.cons_append] at N'); revert N'; intro _)
  k_with "m cls" => first | (simp only [ne_eq, Value.type.injEq, reduceCtorEq, not_false_eq_true]; done) | (simp; done) | ((rename Obj.cls _ = Value.type "dict" => hq'); rw [hq']; simp; done)
  k_with "k ne" => first | (refine neN ?_; (try dsimp only); first | k_extra "m ne0" | omega) | exact news_ne (by with_reducible assumption) (by k_mem) (by k_mem) (by k_extra "m cls")
  k_with "k all" => exact allLt_ne (by assumption)
  k_with "m own" => (intro _ _; k_ownIn)
  k_with "m tup" => first | assumption | exact fr_tup (by with_reducible assumption) (by with_reducible assumption) | exact News.isTup (by with_reducible assumption) (by news_mem) | exact InPn.tup (by with_reducible assumption) (by with_reducible assumption) (by with_reducible assumption) (by k_extra "m own")
  k_with "m prs0" => first | exact Prs.mono (Fr.keep (by with_reducible assumption)) (by with_reducible assumption) | with_reducible assumption | exact prs_nil | exact InPn.prs (by with_reducible assumption) (by with_reducible assumption) (by with_reducible assumption) (by k_extra "m own") | k_extra "m prs"
  k_with "m off" => (repeat' first | exact List.forall_mem_nil _ | (refine in_cons ?_ ?_; k_ne))
  k_with "m offall" => (repeat' first | exact List.forall_mem_nil _ | (refine in_cons ?_ ?_; k_all))
  k_with "k inst" => exact instAt_mixed (by assumption) (by assumption) (by assumption) (by k_mem)
  k_with "m full" => first | assumption | exact FullTups.mono (Fr.keep (by with_reducible assumption)) (by assumption)
  k_with "compareOp In ref ref" => (k_here; k_dflt (refine' in_firsts (by k_extra "m list") (by k_extra "m full") (by k_extra "m tup") (by k_extra "m unit") ?_; k_whole))
  k_with "m slice" => first | (apply slice_upto; (case F => k_asm); (case N => k_asm); (case hl => k_extra "m list"); (case hz => first | assumption | omega); (case hk => assumption); (case hj => assumption); (case hs => with_unfolding_all rfl); k_whole) | (apply slice_from; (case F => k_asm); (case N => k_asm); (case hl => k_extra "m list"); (case hz => first | assumption | omega); (case hk => assumption); (case hj => assumption); (case hs => with_unfolding_all rfl); k_whole)
  k_with "subscriptTail Attribute Slice ref ref" => (k_here; k_dflt (k_extra "m slice"); intro _ _ _ _ l'; (k_lt l'); revert l'; intro _; (try k_sweep))
  k_with "subscriptTail Name Slice ref ref" => (k_here; k_dflt (k_extra "m slice"); intro _ _ _ _ l'; (k_lt l'); revert l'; intro _; (try k_sweep))
  k_with "exec While Compare" => (k_here; k_dflt (refine' while_src (by with_reducible assumption) (by passes_own) ?_))
  k_with "call ref" => (k_here; (with_reducible show wpAny _ _ (call (Value.ref 309) _) _ _ _); k_dflt (refine' far_spec (by assumption) (by k_extra "m stays") (by k_extra "m calm") ?_; intro _ _ _ _; k_extra "m kept"))
  k_with "call ref" => (k_here; (with_reducible show wpAny _ _ (call (Value.ref 328) _) _ _ _); k_dflt (refine' many_spec (by assumption) (by k_extra "m stays") (by k_extra "m calm") (by k_extra "m list") (by k_extra "m prs") (by assumption) ?_; intro _ _ _ _; k_extra "m kept"))
  k_with "call ref" => (k_here; (with_reducible show wpAny _ _ (call (Value.ref 335) _) _ _ _); k_dflt (refine' half_spec (by assumption) (by k_extra "m stays") (by k_extra "m calm") (by k_extra "m list") (by k_extra "m prs") (by assumption) ?_; intro _ _ _; k_extra "m kept"))
  k_with "call ref" => (k_here; (with_reducible show wpAny _ _ (call (Value.ref 316) _) _ _ _); (rename Fr _ _ _ _ => kF'); (rename News _ _ _ _ => kN'); k_dflt (apply draw_spec; (case C => assumption); (case hB => k_extra "m stays"); (case hA => k_extra "m calm"); (case hm => exact hm_one kN' (by k_mem) (by with_reducible assumption)); (case hbo => assumption); (case hnm => assumption); (case hcl => k_extra "m list"); (case hcb => assumption); (case hci => assumption); (case hcz => assumption); (case hmany => first | assumption | omega | (simp only [Int.reduceToNat]; omega) | decide); (case hnb => omega); intro hc tkc oc rc tc kc ec bc r0c r1c; (try simp only [Int.reduceToNat] at r1c); (rename Obj.cls _ = Value.type "dict" => hold'); (have FN' := fr_upd kF' kN' (by k_updF) kc ec); (obtain ⟨F', N'⟩ := FN'); clear kF' kN' hold'; (have dcls' := BagIs.cls bc); (try dsimp only at N'); revert hc tkc oc rc tc kc ec bc r0c r1c F' N' dcls'; intro _ _ _ _ _ _ _ _ _ _ _ _ _; (try dsimp only); (try k_fold)))
  k_with "m ints" => (repeat' (first | exact List.forall_mem_nil _ | (refine (in_cons (⟨_, _, rfl, by (try dsimp only); (try simp only [Int.reduceToNat]); omega⟩) (?_)))))
  k_with "subscriptTail" => (k_here; (with_reducible show wpAny _ _ (subscriptTail _ _ (Value.ref _) (Value.int _ _)) _ _ _); first | (apply tup_pick (fun n => 0 ≤ n ∧ n ≤ 10 ^ 15); (case ht => exact News.isTup (by with_reducible assumption) (by k_mem)); (case h0 => assumption); (case h1 => (simp only [List.length_cons, List.length_nil]; omega)); (case hz => (simp only [List.length_cons, List.length_nil]; omega)); (case hall => k_extra "m ints"); k_whole; intro _ _ px; (have px1 := px.1); (have px2 := px.2); clear px; revert px1 px2; intro _ _) | (apply tup_pick (fun n => -(10 ^ 30) ≤ n ∧ n ≤ 10 ^ 30); (case ht => exact News.isTup (by with_reducible assumption) (by k_mem)); (case h0 => assumption); (case h1 => (simp only [List.length_cons, List.length_nil]; omega)); (case hz => (simp only [List.length_cons, List.length_nil]; omega)); (case hall => k_extra "m ints"); k_whole; intro _ _ px; (have px1 := px.1); (have px2 := px.2); clear px; revert px1 px2; intro _ _))
  k_with "newTuple" => (k_here; k_dflt (refine' newTuple_L (by k_asm) (by k_asm) ?_ (by size_fits); k_whole); intro _ _ _ _ l1; (k_lt l1); revert l1; intro _; (try k_sweep))
  k_with "m om" => ((try simp only [Int.reduceToNat]); omega)
  k_with "m for enum" => (k_here; k_dflt (refine' for_enumF (by with_reducible assumption) (by with_unfolding_all rfl) ?_ (by rfl) (by with_unfolding_all rfl) (by with_unfolding_all rfl) (by rfl) (by (intro _; rfl)); k_whole))
  k_with "call type:enumerate" => (k_here; k_dflt (refine' enum_call (by k_asm) (by k_asm) (by k_extra "m list") ?_; k_whole; intro _ _ _ _ _ _ _ _ _ _ _))
  k_with "m lots" => first | assumption | exact LotsAt.mono (Fr.keep (by with_reducible assumption)) (by assumption)
  k_with "call ref" => (k_here; (with_reducible show wpAny _ _ (call (Value.ref 347) _) _ _ _); k_dflt (refine' wanted_spec (by assumption) (by k_extra "m stays") (by k_extra "m calm") (by k_extra "m list") (by k_extra "m lots") (by k_extra "m list") (by assumption) (by assumption) (by assumption) (by k_extra "m list") (by assumption) (by assumption) (by assumption) ?_; intro _ _ _ _ _; k_extra "m kept"))
  k_with "call ref" => (k_here; (with_reducible show wpAny _ _ (call (Value.ref 354) _) _ _ _); k_dflt (refine' place_spec (by assumption) (by k_extra "m stays") (by k_extra "m calm") (by k_extra "m desk") (by k_extra "m br") (by assumption) (by k_extra "m vars") (by assumption) (by assumption) (by assumption) (by assumption) (by k_extra "m list") (by k_extra "m lots") (by assumption) (by assumption) ?_; intro _ _ _; k_extra "m kept"))
  k_with "m perm" => (repeat' first | exact List.forall_mem_nil _ | (refine in_cons ?_ ?_; k_extra "m mem") | (intro _ _; k_ownIn))
  k_with "m list" => first | with_reducible assumption | exact News.isList (by with_reducible assumption) (by k_mem) | exact fr_list (by with_reducible assumption) (by with_reducible assumption)
  k_with "m tup" => first | with_reducible assumption | exact News.isTup (by with_reducible assumption) (by k_mem) | exact fr_tup (by with_reducible assumption) (by with_reducible assumption)
  k_with "subscriptTail Name Slice ref ref" => (k_here; (with_reducible show wpAny _ _ (subscriptTail (PySem.Expr.Name (PySem.Str.ofString "script") _) _ _ _) _ _ _); k_dflt (refine' slice_take (j := 60) (by k_asm) (by k_asm) (by k_extra "m list") (by rfl) (by first | assumption | omega) ?_ (by with_unfolding_all rfl); k_whole); intro _ _ _ _ l'; (k_lt l'); revert l'; intro _; (try k_sweep))
  k_with "call type:list" => (k_here; (with_reducible show wpAny _ _ (call (Value.type _) [Value.ref _]) _ _ _); k_dflt (refine' list_of (by k_asm) (by k_asm) (by k_extra "m list") (by first | assumption | (simp only [List.length_take]; omega)) ?_; k_whole); intro _ _ _ _ _ l'; (k_lt l'); revert l'; intro _; (try k_sweep))
  k_with "exec For Name Call cons nil" => (k_here; k_dflt (refine' for_rangeKF (by with_reducible assumption) (by with_unfolding_all rfl) ?_ (by rfl) (by with_unfolding_all rfl) (by rfl) (by (intro _; rfl)); k_whole))
  k_with "call ref" => (k_here; (with_reducible show wpAny _ _ (call (Value.ref 298) _) _ _ _); k_dflt (refine' store_call (by assumption) (by with_reducible assumption) (by k_asm) (by k_asm) (by k_extra "m calm") ?_; k_whole); intro _ _ _ _ _ _ _ _ _ _ _ _ _ _ _ _ _ _ ls1 _ _ _ _ _ _; (k_lt ls1); revert ls1; intro _; (try dsimp only); (try k_fold))
  k_with "call ref" => (k_here; (with_reducible show wpAny _ _ (call (Value.ref 66) _) _ _ _); k_dflt (refine' brancher_call (by assumption) (by with_reducible assumption) (by k_asm) (by k_asm) (by k_extra "m calm") (by k_mem) (by assumption) ?_; k_whole); intro _ _ _ _ _ _ _ _ _ _ _ _ _ ls1 _ _; (k_lt ls1); revert ls1; intro _; (try dsimp only); (try k_fold))
  k_with "m list" => first | with_reducible assumption | exact News.isList (by with_reducible assumption) (by k_mem) | exact fr_list (by with_reducible assumption) (by with_reducible assumption) | exact LInPn.list (by with_reducible assumption) (by with_reducible assumption) (by with_reducible assumption) (by k_extra "m own") | exact LstPn.list (by with_reducible assumption) (by with_reducible assumption) (by with_reducible assumption) (by k_extra "m own")
  k_with "m nt1" => first | (simp; done) | (simp only [ne_eq]; rw [‹Obj.cls _ = Value.type "dict"›]; simp; done) | assumption | (exact fun q => by (rw [IntDictIs.cls (by assumption)] at q; simp at q))
  k_with "m nt" => (repeat' first | exact NotTupN.nil | refine NotTupN.cons (by k_extra "m mem") (by k_extra "m nt1") ?_)
  k_with "k all" => exact OwnOff.at (by with_reducible assumption) (by k_mem)
  k_with "k ne" => first | exact Apart.ne (by with_reducible assumption) | exact (Apart.ne (by with_reducible assumption)).symm | exact news_ne (by with_reducible assumption) (by k_mem) (by k_mem) (by k_extra "m cls") | (refine neN ?_; (try dsimp only); first | k_extra "m ne0" | omega)
  k_with "m lots" => first | with_reducible assumption | exact LPn.at (by with_reducible assumption) (by with_reducible assumption) (by with_reducible assumption) (by k_extra "m own")
  k_with "m vars" => first | with_reducible assumption | exact VPn.at (by with_reducible assumption) (by with_reducible assumption) (by with_reducible assumption) (by k_extra "m own")
  k_with "m desk" => first | with_reducible assumption | exact DeskR.ofLed (by with_reducible assumption) (by k_mem) (by k_mem) (by k_mem)
  k_with "m br" => first | with_reducible assumption | exact BrR.ofLed (by with_reducible assumption) (by with_reducible assumption) (by with_reducible assumption) (by k_extra "m own") (by k_mem) (by k_mem) (by with_reducible assumption)
  k_with "m prs" => first | with_reducible assumption | exact InPn.prs (by with_reducible assumption) (by with_reducible assumption) (by with_reducible assumption) (by k_extra "m own") | exact LInPn.prs (by with_reducible assumption) (by with_reducible assumption) (by with_reducible assumption) (by k_extra "m own") | exact Prs.mono (Fr.keep (by with_reducible assumption)) (by with_reducible assumption)
  k_with "m tup" => first | with_reducible assumption | exact News.isTup (by with_reducible assumption) (by k_mem) | exact InPn.tup (by with_reducible assumption) (by with_reducible assumption) (by with_reducible assumption) (by k_extra "m own") | exact fr_tup (by with_reducible assumption) (by with_reducible assumption)
  k_with "binaryOp Add ref ref" => (k_here; (with_reducible show wpAny _ _ (binaryOp _ (Value.ref _) (Value.ref _)) _ _ _); k_dflt (refine' add_L (by k_asm) (by k_asm) (by k_extra "m list") (by k_extra "m list") (by first | assumption | ((simp only [List.length_append, List.length_cons, List.length_nil, List.length_take, List.length_drop]); omega)) ?_; k_whole); intro _ _ _ _ l'; (k_lt l'); revert l'; intro _; (try k_sweep))
  k_with "call ref" => (k_here; (with_reducible show wpAny _ _ (call (Value.ref 354) _) _ _ _); k_dflt (refine' place_spec (by assumption) (by k_extra "m stays") (by k_extra "m calm") (by k_extra "m desk") (by k_extra "m br") (by assumption) (by k_extra "m vars") (by assumption) (by assumption) (by assumption) (by assumption) (by k_extra "m list") (by k_extra "m lots") (by exact place_zz (by assumption) (by assumption)) (by assumption) ?_; intro _ _ _; k_extra "m kept"))
  k_with "m cls" => first | (simp only [ne_eq, Value.type.injEq, reduceCtorEq, not_false_eq_true]; done) | (simp; done) | ((rename Obj.cls _ = Value.type "dict" => hq'); rw [hq']; simp; done) | ((rename IntDictIs _ _ => hq'); rw [hq'.1]; simp; done)
  k_with "m perm2" => (repeat' first | exact List.forall_mem_nil _ | (refine in_cons ?_ ?_; first | with_reducible assumption | k_extra "m mem") | (intro _ _; k_ownIn))
  trivial
section
theorem off98s : True := by
  w_top off
  trivial
theorem allLt_lt {d : Addr} : ∀ {l : List (Addr × Obj)}, AllLt d l → ∀ p ∈ l, @LT.lt Nat _ p.1 d
  | [], _, _, q => nomatch q
  | _ :: _, x, p, q => by
    rcases List.mem_cons.mp q with rfl | q
    · exact x.1
    · exact allLt_lt x.2 p q
theorem set_deg {w : World} {A : Around} {E : Value → Shared → Prop} {s : Shared} {g : Heap} {L d : Addr} {m : PySem.Str → Option Value} {news : List (Addr × Obj)} {o : Obj} {gg : Obj → List (Addr × Obj)} {kvs : List (Int × Value)} {k : Int} {t : Tok} {v : Value} {Q : Unit → Shared → Prop}
    (F : Fr g L s.heap m) (N : News g L s.heap news) (U : UpdF d o news gg) (hd : Obj.IsDictOf (intKind PR w) o kvs) (hz : kvs.length ≤ 1000)
    (h : ∀ h' o' tk, Fr g L h' m → News g L h' (gg o') → Obj.IsDictOf (intKind PR w) o' (stored kvs k v) → Q () { s with heap := h', toks := tk }) : wpAny (model PR w) A (setItem (.ref d) (.int k t) v) Q E s :=
  kda_set F N U hd (intKind_is _ _ _ _) (le_sizeLine hz) fun h' o' F' N' hd' => h h' o' _ F' N' hd'
noncomputable def degKvs (gv : List Value) (n : Nat) : List (Int × Value) := (List.range n).map fun (x : Nat) => ((x : Int), gv.getD x .none)
theorem degKvs_keys (gv : List Value) (n : Nat) : (degKvs gv n).map (·.1) = (List.range n).map fun (x : Nat) => (x : Int) := by
  unfold degKvs; rw [List.map_map]; rfl
theorem degKvs_next {gv : List Value} {n : Nat} {v : Value} (hv : gv[n]? = some v) : stored (degKvs gv n) (n : Int) v = degKvs gv (n + 1) := by
  have hno : ¬ ((degKvs gv n).any fun kv => decide (kv.1 = (n : Int))) = true := by
    rw [List.any_eq_true]
    rintro ⟨kv, hkv, he⟩
    obtain ⟨x, hx, rfl⟩ := List.mem_map.mp hkv
    have := List.mem_range.mp hx
    simp at he; omega
  unfold stored
  rw [if_neg (by simpa using hno)]
  unfold degKvs
  rw [List.range_succ, List.map_append, List.map_singleton, List.getD_eq_getElem?_getD, hv]; rfl
theorem degKvs_at {gv : List Value} {n x : Nat} {v : Value} (hx : x < n) (hv : gv[x]? = some v) : valueAt (degKvs gv n) (x : Int) = some v := by
  refine valueAt_of_get (i := x) ?_ ?_
  · rw [degKvs_keys]
    exact List.Pairwise.map _ (fun a b h e => h (Int.ofNat.inj e)) List.nodup_range
  · unfold degKvs
    rw [List.getElem?_map, List.getElem?_range hx, Option.map_some, List.getD_eq_getElem?_getD, hv]; rfl
theorem comp_global {M : Model} {A : Around} {E : Value → Shared → Prop} {s : Shared} {scope : Scope} {cl : List (PySem.Str × Addr)} {C : Nat} {env : Env} {B0 Hs g : Heap} {m mg mb : PySem.Str → Option Value} {mean : ExcName → Option Value} {Q : Value → Shared → Prop} {K : Frag} {x : PySem.Str} {pos : Pos} {v : Value} (F : CF B0 Hs s.heap C m) (X : K.In g) (T : Top VW LO mean mg mb g) (k : Stays g B0) (e : nsIn K mainGlobals x = some (some v)) (h : Q v s)
    (hg : env.globals = mainGlobals := by rfl) (hk : scope.kind = .function := by rfl) (hx : (compEnvC scope cl C env).kindOf x = some .globalImplicit := by with_unfolding_all rfl) (hd : (x == ("__debug__" : PySem.Str)) = false := by decide) :
    wpAny M A (eval (.Name x pos) (compEnvC scope cl C env)) Q E s := by
  have kk : Stays g s.heap := fun b o e => F.keep b o (k b o e)
  refine Name_function_global hk hx (loadGlobal_global (env := compEnvC scope cl C env) (mg := mg) ?_ (mg_of X T.g e) h) hd
  show s.heap.Ns env.globals mg
  rw [hg]; exact T.g.keeps kk
theorem order_pick {prog : Program} {w : World} {A : Around} {E : Value → Shared → Prop} {s : Shared} {value slice : PySem.Expr} {t : Addr} {k : Int} {u a0 a1 a2 a3 a4 : Tok} {Q : Value → Shared → Prop}
    (ht : IsTup s.heap t #[.str (Str.ofString "input_order") a0, .str (Str.ofString "first_fail") a1, .str (Str.ofString "smallest") a2, .str (Str.ofString "largest") a3, .str (Str.ofString "most_constrained") a4]) (h0 : 0 ≤ k) (h1 : k < 5)
    (h : ∀ (o : Nat) v, o < 5 → Q (.str (Str.ofString (ordName o)) v) s)
    (hs : subscripted slice false (.ref t) (.int k u) = operate [.ref t, .int k u] (getItem (.ref t) (.int k u)) := by with_unfolding_all rfl) :
    wpAny (model prog w) A (subscriptTail value slice (.ref t) (.int k u)) Q E s := by
  have c : k = 0 ∨ k = 1 ∨ k = 2 ∨ k = 3 ∨ k = 4 := by omega
  rcases c with rfl | rfl | rfl | rfl | rfl
  · exact tup_at (j := 0) (l := [_, _, _, _, _]) ht rfl rfl (by decide) (h 0 a0 (by decide)) hs
  · exact tup_at (j := 1) (l := [_, _, _, _, _]) ht rfl rfl (by decide) (h 1 a1 (by decide)) hs
  · exact tup_at (j := 2) (l := [_, _, _, _, _]) ht rfl rfl (by decide) (h 2 a2 (by decide)) hs
  · exact tup_at (j := 3) (l := [_, _, _, _, _]) ht rfl rfl (by decide) (h 3 a3 (by decide)) hs
  · exact tup_at (j := 4) (l := [_, _, _, _, _]) ht rfl rfl (by decide) (h 4 a4 (by decide)) hs
theorem list_rng {prog : Program} {w : World} {A : Around} {E : Value → Shared → Prop} {s : Shared} {g : Heap} {L r : Addr} {m : PySem.Str → Option Value} {news : List (Addr × Obj)} {a b : Int} {t u v : Tok} {Q : Value → Shared → Prop} (hh : A.handled = none) (F : Fr g L s.heap m) (N : News g L s.heap news)
    (hr : IsRange s.heap r a b 1 t u v) (h0 : 0 ≤ a) (h1 : a ≤ b) (h2 : b ≤ 1000)
    (h : ∀ D c ys h' tk, Fr g L h' m → News g L h' ((D, lstObj ys c) :: news) → (∀ q ∈ news, q.1 < D) → IntsAre ys ((List.range (b - a).toNat).map fun (i : Nat) => a + (i : Int)) → Q (.ref D) { s with heap := h', toks := tk }) :
    wpAny (model prog w) A (call (.type "list") [.ref r]) Q E s := by
  have hn : Builtin.Range.rangeSize a b 1 = (((b - a).toNat : Nat) : Int) := by
    unfold Builtin.Range.rangeSize
    by_cases c : a < b
    · simp [c]; omega
    · simp [c]; omega
  have hsm : Builtin.Range.small a b 1 = true := by
    unfold Builtin.Range.small
    have hf : ∀ j : Int, 0 ≤ j → j ≤ 1000 → Builtin.Range.rangeFitsLong j = true := fun j hj hj2 => by
      unfold Builtin.Range.rangeFitsLong; simp; omega
    have h3 := hf a h0 (by omega)
    have h4 := hf b (by omega) h2
    have h5 := hf 1 (by omega) (by omega)
    have h6 := hf (((b - a).toNat : Nat) : Int) (by omega) (by omega)
    have e : b + ((1 : Int) - 1) = b := by omega
    simp only [hn, h3, h4, h5, h6, e, Bool.and_self, Bool.true_and, show (1 : Int) > 0 from by omega, if_true, Bool.or_true]
  refine call_list_range hh hr hsm hn (by omega) fun h' tk acc c hk hS hacc => ?_
  have F' := Fr.keeps F hk
  have N' := News.grown N hk
  have hlt : ∀ p ∈ news, p.1 < s.heap.objs.size := fun p hp => Heap.lt_size (N p hp).1
  have hfr : s.heap.get? s.heap.objs.size = none := fresh_of_size (Nat.le_refl _)
  refine h _ c acc.toList h' tk F' (news_c ⟨by rw [hS], fresh_of F hfr⟩ N') hlt ?_
  have hlen := hacc.1
  have key : ∀ (n : Nat) (vs : List Value) (base : Int), vs.length = n → (∀ (i : Nat) v, vs[i]? = some v → ∃ t, v = .int (base + i) t) → IntsAre vs ((List.range n).map fun (i : Nat) => base + (i : Int)) := by
    intro n
    induction n with
    | zero => intro vs base e _; rw [List.length_eq_zero_iff.mp e]; exact .nil
    | succ n ih =>
      intro vs base e hv
      cases vs with
      | nil => cases e
      | cons x vs =>
        obtain ⟨t, rfl⟩ := hv 0 x rfl
        have y := ih vs (base + 1) (by simpa using e) fun i v hi => by
          obtain ⟨t, ht⟩ := hv (i + 1) v (by simpa using hi)
          exact ⟨t, by rw [ht]; congr 1; omega⟩
        rw [List.range_succ_eq_map, List.map_cons, List.map_map]
        have z : ((fun (i : Nat) => base + (i : Int)) ∘ Nat.succ) = fun (i : Nat) => base + 1 + (i : Int) := by
          funext i; simp only [Function.comp]; push_cast; omega
        rw [z]
        exact .cons _ t y
  refine key _ _ a (by simpa using hlen) fun i v hi => ?_
  obtain ⟨t, ht⟩ := hacc.2 i v (by simpa using hi)
  exact ⟨t, by rw [ht]; congr 1; omega⟩
theorem own98s_1 : True := by
  k_with "subscriptTail" => (k_here; (with_reducible show wpAny _ _ (subscriptTail _ _ (Value.ref _) (Value.int _ _)) _ _ _); k_dflt (refine' order_pick (by exact News.isTup (by with_reducible assumption) (by k_mem)) (by assumption) (by assumption) ?_ (by with_unfolding_all rfl); k_whole; intro _ _ _))
  trivial
theorem own98s_9 : True := by
  k_with "eval Name" => ((with_reducible show wpAny _ _ (eval (Expr.Name _ _) (compEnvC _ _ _ _)) _ _ _); k_dflt (apply comp_global; (case F => with_reducible assumption); (case X => assumption); (case T => with_reducible assumption); (case k => with_reducible assumption); (case e => k_is); (case hg => rfl); (case hk => rfl); (case hx => with_unfolding_all rfl); (case hd => decide); k_whole))
  k_with "setItem ref int" => (k_here; k_dflt (refine' set_deg (by k_asm) (by k_asm) (by k_updF) (by assumption) (by assumption) ?_; k_whole); intro _ _ _ _ N' d'; (try dsimp only at N'); revert N' d'; intro _ _)
  k_with "call type:list" => (k_here; (with_reducible show wpAny _ _ (call (Value.type _) [Value.ref _]) _ _ _); k_dflt (refine' list_rng (by first | exact Calm.hh (by assumption) | with_unfolding_all rfl) (by k_asm) (by k_asm) (by assumption) (by omega) (by omega) (by omega) ?_; k_whole); intro _ _ _ _ _ _ _ l' is'; (k_lt l'); revert is' l'; intro _ _; (try k_sweep))
  trivial
theorem own98s_2 : True := by
  k_with "eval ListComp" => ((with_reducible show wpAny _ _ (eval (PySem.Expr.ListComp _ _ _ _) _) _ _ _); refine halt ?_)
  trivial
set_option pp.deepTerms false
set_option pp.deepTerms.threshold 4
theorem law_b {w : World} {mean : ExcName → Option Value} {mg mb : PySem.Str → Option Value} {s : Shared} {g : Heap} {fa : Addr} {cd : Value} {L : Addr} {Q : Flow → Shared → Prop} {E : Value → Shared → Prop} {b ca a D dl fl tl ml nd ll : Addr} {ob odn ocl : Obj} {cells dv lv : List Value} {cns : List Int} {cver n1 n2 n5 nb : Nat} {hs : Nat → Int} {ts : Nat → Tok} {vsp vi vc : Value} {pn : List (Addr × Obj)} {doms : List Rng} {m0 : PySem.Str → Option Value}
    (C : Core w mean mg mb g) (hA : Calm (callerA.deeper (lawEnv L fa cd)) 20) (hoc : ocl.data = .cell (some (.ref b)))
    (F : Fr g L s.heap (ov [(Str.ofString "lots", some (.ref ll)), (Str.ofString "desk", some (.ref a))] m0))
    (N : News g L s.heap ((b, ob) :: (dl, lstObj dv n1) :: (fl, lstObj dv n2) :: (ll, lstObj lv n5) :: (a, storeObj D) :: (D, dictOf (storeEs hs ts (.ref dl) (.ref fl) (.ref tl) (.ref ml) (.ref nd) vsp vi vc) 8) :: (tl, lstObj [] 0) :: (ml, lstObj [] 0) :: (nd, odn) :: (ca, lstObj cells cver) :: (L + 1, ocl) :: pn))
    (hbag : BagIs w ob ca nb) (hnb : nb ≤ 300) (hoff : OwnOff pn [b, dl, fl, ll, D, tl, ml, nd]) (hV : VPn g pn dv doms) (hLp : LPn g pn lv doms) (hd0 : 0 < doms.length) (hd3 : doms.length ≤ 3) (hgood : ∀ rs ∈ doms, Good rs ∧ rs ≠ [] ∧ rs.length ≤ 4)
    (hci : IntsAre cells cns) (hcz : cns.length ≤ 100) (hbn : (b == sysModules) = false) (hnd : IntDictIs odn 0)
    (lo : L + 1 < b ∧ b < ca ∧ ca < D ∧ D < a ∧ a < dl ∧ dl < fl ∧ fl < tl ∧ tl < ml ∧ ml < nd ∧ nd < ll)
    (hret : ∀ h tk m, Fr g L h m → Q (.ret (.bool true)) { s with heap := h, toks := tk }) :
    wpAny (model PR w) (callerA.deeper (lawEnv L fa cd)) (execs (lawBody.drop 2) (lawEnv L fa cd)) Q E s := by
  have X := C.X
  have T := C.T
  have kk : Stays g g := fun _ _ e => e
  k_extra "m fill"
  conv => arg 3; arg 1; whnf
  obtain ⟨sc, hsc⟩ : ∃ sc, sc = lawScope := ⟨_, rfl⟩
  have hA0 := hA
  simp only [lawEnv, ← hsc] at hA ⊢
  conv at hsc => rhs; whnf
  subst hsc
  try k_fold
  obtain ⟨lo1, lo2, lo3, lo4, lo5, lo6, lo7, lo8, lo9, lo10⟩ := lo
  replace lo1 : @LT.lt Nat _ (L + 1) b := lo1
  replace lo2 : @LT.lt Nat _ b ca := lo2
  replace lo3 : @LT.lt Nat _ ca D := lo3
  replace lo4 : @LT.lt Nat _ D a := lo4
  replace lo5 : @LT.lt Nat _ a dl := lo5
  replace lo6 : @LT.lt Nat _ dl fl := lo6
  replace lo7 : @LT.lt Nat _ fl tl := lo7
  replace lo8 : @LT.lt Nat _ tl ml := lo8
  replace lo9 : @LT.lt Nat _ ml nd := lo9
  replace lo10 : @LT.lt Nat _ nd ll := lo10
  have hbc := hbag.cls
  have hbB : g.get? b = none := (N (b, ob) (by k_mem)).2.2
  have hcab : ca ≠ b := Ne.symm (Nat.ne_of_lt (by k_extra "m lt"))
  have hlvl : lv.length = doms.length := hLp.1
  have hlvz : lv.length ≤ 3 := by omega
  have hlv0 : (0 : Int) < (lv.length : Int) := by omega
  k_steps
  rename_i tl0 tk0 g1 tk1 op g2 lop h1 tk2 ob1 oi ot k1 e1 bag1 oi0 oi1 o vo ho5 g3 h2 tk3 ob2 tn tt k2 e2 bag2 tn0 tn1 F1 N1 cls1
  clear k1 e1 k2 e2 lop
  unfold Halt
  refine comp_draws (b := b) (ca := ca) (lim := 3) (Calm.hh hA) ?_
  k_steps
  rename_i h3 tk4 ra rb rcc R3 F3 N3 k3
  refine ⟨_, lv.length, nb + 1 + 1, _, _, _, ob2, rfl, R3, by omega, N3.get (by k_mem), bag2, ?_, ?_⟩
  · intro C2 h tk' m' E2 n ob3 hn hkb hb3 hbg3 hns hfr
    have kB : Stays (hideAll h3 [b]) h := fun c o e => hkb c o (fun q => by rw [hideAll_none _ q] at e; cases e) (of_hideAll _ e)
    have CF1 : CF (hideAll h3 [b]) h h C2 m' := ⟨hns, kB, fun _ _ e => e⟩
    have hcell : (hideAll h3 [b]).get? (L + 1) = some ocl := hideAll_get _ (N3 (L + 1, ocl) (by k_mem)).1 (by simp only [List.mem_singleton]; exact Nat.ne_of_lt lo1)
    have kg : Stays g (hideAll h3 [b]) := fun c o e => hideAll_get _ (F3.keep _ _ e) (fun q => by rw [List.mem_singleton.mp q, hbB] at e; cases e)
    have kgh : Stays g h := fun c o e => kB c o (kg c o e)
    have Xh : (KF w.params).In h := X.keeps kgh
    have hlc := isList_of hkb (N3.isList (a := ca) (by k_mem)) (by simp only [List.mem_singleton]; exact hcab)
    clear F3 N3
    k_steps
    refine comp_global CF1 X T kg (by k_is) ?_
    k_steps
    exact draw_spec C kgh (by k_extra "m calm") hbg3 (fun p hp => by cases List.mem_singleton.mp hp; exact ⟨hb3, hbB⟩) hbn hlc hcab hci hcz (by decide) (by omega) fun h' tk' ob' r t k e bg r0 r1 => ⟨h', tk', ob', r, t, rfl, rfl, r0, r1, k, e, bg⟩
  · intro gl h4 tk5 gv gs gver ob3 hgn hgg hgi hgl hgs hk4 hb4 bag3
    have FN := fr_upd F3 N3 (by k_updF) hk4 hb4
    have gfr := fresh_ne N3 hgn
    have gff := fresh_of F3 hgn
    obtain ⟨F4, N4⟩ := FN
    try dsimp only at N4
    have N5 := news_c ⟨hgg, gff⟩ N4
    have cls3 := bag3.cls
    clear F3 N3 N4 cls1 hk4 hb4 hgg
    k_steps
    rename_i tpl h5 ltp h6 h7 h8 h9 tk6 tq1 tq2 tq3 Rq1 kq1 ra1 rc1 ya h10 tk7 ia la h11 tk8 tq4 tq5 tq6 Rq2 kq2 rb1 rc2 yb h12 tk9 F6 N6 ib lb
    obtain ⟨tn, rfl⟩ := Int.eq_ofNat_of_zero_le tn0
    have htn : tn < lv.length := by omega
    have hla := IntsAre.length ia
    have hlb := IntsAre.length ib
    simp only [List.length_map, List.length_range] at hla hlb
    have hyz : ya.length + yb.length ≤ 1000 := by omega
    have hyz2 : (ya ++ yb).length ≤ 1000 := by rw [List.length_append]; exact hyz
    k_steps
    rename_i rl h13 lrl h14 tk10 h15 tk11 br Db sa dg og hs' ts' dis hdgn lb1 lb2 lb3 sl h16 lsl tp3 h17 ltp3 h18 h19 h20 F77 N77 h21 tk12 tr1 tr2 tr3 R4 F7 N7 k7
    clear F77 N77
    obtain ⟨t2m, L9⟩ : ∃ t2m, News g L h21 ((dg, og) :: (b, ob3) :: (dl, lstObj dv n1) :: (fl, lstObj dv n2) :: (ll, lstObj lv n5) :: (a, storeObj D) :: (D, dictOf (storeEs hs ts (.ref dl) (.ref fl) (.ref tl) (.ref ml) (.ref nd) vsp vi vc) 8) :: (tl, lstObj [] 0) :: (ml, lstObj [] 0) :: (nd, odn) :: (ca, lstObj cells cver) :: (L + 1, ocl) :: (gl, lstObj gv gver) :: (rl, lstObj (ya ++ yb) 0) :: (br, brObj Db) :: (Db, dictOf (brEs hs' ts' (.ref sa) (.str (Str.ofString (ordName o)) vo) (.str (Str.ofString "median") t2m) (.ref dg)) 4) :: (sa, tupObj (ya ++ yb)) :: (sl, lstObj [] 0) :: pn) := ⟨_, news_sub N7 (by k_extra "m perm2")⟩
    clear N7 k7 ltp3
    have hAllDb : AllLt Db pn := by
      have q := lb3
      repeat (first | exact q | replace q := q.2)
    have hpdg : OwnOff pn [dg] := fun p hp c hc => by
      cases List.mem_singleton.mp hc
      have y : @LT.lt Nat _ p.1 Db := allLt_lt hAllDb p hp
      exact Nat.ne_of_lt (by k_extra "m lt")
    have ag1 : Apart dl gl := ⟨gfr (dl, lstObj dv n1) (by k_mem)⟩
    have ag2 : Apart tl gl := ⟨gfr (tl, lstObj [] 0) (by k_mem)⟩
    have ag3 : Apart ml gl := ⟨gfr (ml, lstObj [] 0) (by k_mem)⟩
    clear gfr
    refine with_map F7 fun m9 em9 F8 => ?_
    refine ⟨_, lv.length, _, _, _, fun i m news => ∃ od u, m = ov [(Str.ofString "x", u)] m9 ∧ news = (dg, od) :: (b, ob3) :: (dl, lstObj dv n1) :: (fl, lstObj dv n2) :: (ll, lstObj lv n5) :: (a, storeObj D) :: (D, dictOf (storeEs hs ts (.ref dl) (.ref fl) (.ref tl) (.ref ml) (.ref nd) vsp vi vc) 8) :: (tl, lstObj [] 0) :: (ml, lstObj [] 0) :: (nd, odn) :: (ca, lstObj cells cver) :: (L + 1, ocl) :: (gl, lstObj gv gver) :: (rl, lstObj (ya ++ yb) 0) :: (br, brObj Db) :: (Db, dictOf (brEs hs' ts' (.ref sa) (.str (Str.ofString (ordName o)) vo) (.str (Str.ofString "median") t2m) (.ref dg)) 4) :: (sa, tupObj (ya ++ yb)) :: (sl, lstObj [] 0) :: pn ∧ Obj.IsDictOf (intKind PR w) od (degKvs gv i), _, _, rfl, R4, by omega, F7, L9, ⟨og, m9 (Str.ofString "x"), (by subst em9; exact ov_eq _ (by k_extra "m in") (by k_extra "m out")), rfl, dis⟩, ?_, ?_⟩
    · rintro i h tk m I oI news ti E' hi ⟨od, u, rfl, rfl, hdo⟩ F9 N9 hne9 hoI9
      subst em9
      clear F7 F8 L9 dis
      obtain ⟨td, hgv⟩ := IntsAre.get hgi i (gs.getD i 0) (by rw [List.getD_eq_getElem?_getD, List.getElem?_eq_getElem (by omega)]; rfl)
      have hgz : (degKvs gv i).length ≤ 1000 := by unfold degKvs; rw [List.length_map, List.length_range]; omega
      have hif : i < 2 ^ 62 := by omega
      have hIdg : @Ne Nat dg I := hne9 (dg, od) (.head _)
      have hpdg2 := hpdg
      have hodc : od.cls = .type "dict" := by
        obtain ⟨es, ep, h1, _⟩ := id hdo
        exact h1.1
      k_steps
      rename Fr _ _ _ _ => F10
      rename News _ _ _ _ => N10
      rename Obj.IsDictOf (intKind PR w) _ (stored _ _ _) => hst
      rw [degKvs_next hgv] at hst
      exact ⟨_, _, _, _, (dg, _) :: (b, ob3) :: (dl, lstObj dv n1) :: (fl, lstObj dv n2) :: (ll, lstObj lv n5) :: (a, storeObj D) :: (D, dictOf (storeEs hs ts (.ref dl) (.ref fl) (.ref tl) (.ref ml) (.ref nd) vsp vi vc) 8) :: (tl, lstObj [] 0) :: (ml, lstObj [] 0) :: (nd, odn) :: (ca, lstObj cells cver) :: (L + 1, ocl) :: (gl, lstObj gv gver) :: (rl, lstObj (ya ++ yb) 0) :: (br, brObj Db) :: (Db, dictOf (brEs hs' ts' (.ref sa) (.str (Str.ofString (ordName o)) vo) (.str (Str.ofString "median") t2m) (.ref dg)) 4) :: (sa, tupObj (ya ++ yb)) :: (sl, lstObj [] 0) :: pn, rfl, F10, N10, (by k_extra "m perm"), (by k_extra "m perm"), sep1 (fun r hr => by
        rcases List.mem_cons.mp hr with rfl | hr
        · exact hIdg
        · exact hne9 r (.tail _ hr)), ⟨_, _, ov_eq _ (by k_extra "m in") (by k_extra "m out"), rfl, hst⟩⟩
    · rintro h tk m news ⟨od, u, rfl, rfl, hdo⟩ F9 N9
      subst em9
      clear F7 F8 L9 dis
      have hAll : AllLt sl pn := by
        repeat (first | exact lsl | replace lsl := lsl.2)
      have subN : ∀ p ∈ pn, p ∈ ((fl, lstObj dv n2) :: (rl, lstObj (ya ++ yb) 0) :: (gl, lstObj gv gver) :: (ca, lstObj cells cver) :: (sa, tupObj (ya ++ yb)) :: (dg, od) :: (ll, lstObj lv n5) :: pn) := fun p hp => (.tail _ (.tail _ (.tail _ (.tail _ (.tail _ (.tail _ (.tail _ hp)))))))
      have offN : OwnOff ((fl, lstObj dv n2) :: (rl, lstObj (ya ++ yb) 0) :: (gl, lstObj gv gver) :: (ca, lstObj cells cver) :: (sa, tupObj (ya ++ yb)) :: (dg, od) :: (ll, lstObj lv n5) :: pn) [b, D, dl, tl, ml, nd, sl] := OwnOff.cons (by k_extra "m off") (OwnOff.cons (by k_extra "m off") (OwnOff.cons (by k_extra "m off") (OwnOff.cons (by k_extra "m off") (OwnOff.cons (by k_extra "m off") (OwnOff.cons (by k_extra "m off") (OwnOff.cons (by k_extra "m off") (own_in (in_cons (OwnOff.at hoff (by k_mem)) (in_cons (OwnOff.at hoff (by k_mem)) (in_cons (OwnOff.at hoff (by k_mem)) (in_cons (OwnOff.at hoff (by k_mem)) (in_cons (OwnOff.at hoff (by k_mem)) (in_cons (OwnOff.at hoff (by k_mem)) (in_cons (allLt_ne hAll) (List.forall_mem_nil _)))))))))))))))
      refine with_map F9 fun M eM F9' => ?_
      have hgsl : gs.length = lv.length := hgl
      have hgs2 : gs = (List.range lv.length).map fun x => gs.getD x 0 := by
        refine List.ext_getElem? fun x => ?_
        rw [List.getElem?_map]
        by_cases hx : x < lv.length
        · rw [List.getElem?_range hx, Option.map_some, List.getD_eq_getElem?_getD, List.getElem?_eq_getElem (by omega)]; rfl
        · rw [List.getElem?_eq_none (by omega), List.getElem?_eq_none (by rw [List.length_range]; omega)]; rfl
      have hrowI : IntsAre (ya ++ yb) ((((List.range (lv.length - tn)).map fun x => tn + x) ++ List.range tn).map fun (x : Nat) => (x : Int)) := by
        rw [List.map_append]
        refine IntsAre.append ?_ ?_
        · rw [List.map_map]
          have e : ((lv.length : Int) - (tn : Int)).toNat = lv.length - tn := by omega
          rw [e] at ia
          have f : ((fun (x : Nat) => (x : Int)) ∘ fun x => tn + x) = fun (i : Nat) => (tn : Int) + (i : Int) := by funext i; simp
          rw [f]; exact ia
        · have e : ((tn : Int) - 0).toNat = tn := by omega
          rw [e] at ib
          have f : (fun (i : Nat) => (0 : Int) + (i : Int)) = fun (x : Nat) => (x : Int) := by funext i; omega
          rw [f] at ib; exact ib
      have hPl : Plain ⟨b, ca, a, D, dl, fl, tl, br, Db, sa, dg, rl, gl, ocl, cells, cns, dv, ya ++ yb, gv, o, vo, t2m, tl0, vo, hs', ts', valueAt (degKvs gv lv.length), ((List.range (lv.length - tn)).map fun x => tn + x) ++ List.range tn, fun x => gs.getD x 0, lv.length, M⟩ := by
        refine ⟨ho5, hrowI, fun x hx => ?_, by simp; omega, hgs2 ▸ hgi, fun x hx => ?_, hlvz, by show 0 < lv.length; omega, hci, hcz, hdgn, hbn, hcab, ⟨(show @Ne Nat fl D from Ne.symm (Nat.ne_of_lt (by k_extra "m lt")))⟩, ⟨(show @Ne Nat fl dl from Ne.symm (Nat.ne_of_lt (by k_extra "m lt")))⟩, ⟨(show @Ne Nat fl tl from Nat.ne_of_lt (by k_extra "m lt"))⟩⟩
        · rcases List.mem_append.mp hx with hx | hx
          · obtain ⟨y, hy, rfl⟩ := List.mem_map.mp hx
            have := List.mem_range.mp hy
            show tn + y < lv.length; omega
          · have := List.mem_range.mp hx
            show x < lv.length; omega
        · obtain ⟨td, hgv⟩ := IntsAre.get hgi x (gs.getD x 0) (by rw [List.getD_eq_getElem?_getD, List.getElem?_eq_getElem (by have : x < lv.length := hx; omega)]; rfl)
          exact ⟨td, degKvs_at hx hgv⟩
      dsimp only
      refine law_c (pn := (fl, lstObj dv n2) :: (rl, lstObj (ya ++ yb) 0) :: (gl, lstObj gv gver) :: (ca, lstObj cells cver) :: (sa, tupObj (ya ++ yb)) :: (dg, od) :: (ll, lstObj lv n5) :: pn) (dv := dv) (tr := []) (ms := []) (sv := []) (lv := lv) (cur := doms) (hist := []) (es := []) (nn := 0) (ll := ll) (sl := sl) (ml := ml) (nd := nd) (nb := _) C hA0 hoc hPl ⟨bag3, by omega, offN, ⟨⟨by k_ne⟩, ⟨by k_ne⟩, ⟨by k_ne⟩, ⟨by k_ne⟩, ⟨by k_ne⟩, ⟨by k_ne⟩, ⟨by k_ne⟩, ⟨by k_ne⟩, ⟨by k_ne⟩, ⟨by k_ne⟩, ⟨by k_ne⟩, ⟨by k_ne⟩⟩, ⟨⟨by k_ne⟩, ⟨by k_ne⟩, ⟨by k_ne⟩, ⟨by k_ne⟩, ⟨by k_ne⟩, ⟨by k_ne⟩, ⟨by k_ne⟩⟩,
        ⟨fun h k1 k2 => ⟨_, k2 (fl, _) (.head _), rfl, _, rfl⟩, (hV.full).more subN, fun h k1 k2 => ⟨_, k2 (rl, _) (.tail _ (.head _)), rfl, _, rfl⟩, fun h k1 k2 => ⟨_, k2 (gl, _) (.tail _ (.tail _ (.head _))), rfl, _, rfl⟩, fun h k1 k2 => ⟨_, k2 (ca, _) (.tail _ (.tail _ (.tail _ (.head _)))), rfl, _, rfl⟩,
          fun h k1 k2 => ⟨⟨_, k2 (sa, _) (.tail _ (.tail _ (.tail _ (.tail _ (.head _))))), rfl, _, rfl⟩, Heap.DictOf.mapOf (Heap.dictOf_iff.mpr ⟨od, k2 (dg, _) (.tail _ (.tail _ (.tail _ (.tail _ (.tail _ (.head _)))))), hdo⟩)⟩⟩,
        hV.more subN, fun h k1 k2 => ⟨_, k2 (ll, _) (.tail _ (.tail _ (.tail _ (.tail _ (.tail _ (.tail _ (.head _))))))), rfl, _, rfl⟩, hLp.more subN, ⟨rfl, fun i e q => by simp at q⟩, ⟨rfl, rfl, fun j d e => by simp at e⟩, ⟨hlvl.symm, hgood⟩, (fun d hd => nomatch hd), Nat.le_refl _, .nil, (fun e he => nomatch he), hnd, Nat.le_refl _⟩ (by omega)
        (u1 := M (Str.ofString "lap")) (u2 := M (Str.ofString "way")) (u3 := M (Str.ofString "x")) (u4 := M (Str.ofString "mark")) (u5 := M (Str.ofString "k")) (u6 := M (Str.ofString "below")) (u7 := M (Str.ofString "above")) (u8 := M (Str.ofString "literal")) (u9 := M (Str.ofString "kept")) (u10 := M (Str.ofString "deep"))
        (fr_ov _ F9' (by subst eM; k_extra "m in") (fun y _ => rfl)) (news_sub N9 (by k_extra "m perm2")) hret

end
theorem rows98s : True := by
  k_with_none
  k_with "m mem" => first | exact mem0 | exact mem1 | exact mem2 | exact mem3 | (refine' mem4 ?_; k_extra "m mem")
  k_with "k ne" => (refine neN ?_; (try dsimp only); k_extra "m ne0")
  k_with "m lt0" => first | with_reducible assumption | (refine lt_from (by with_reducible assumption) ?_; intro hh; first | exact hh.1 | exact hh.2 | exact hh.2.1 | exact hh.2.2 | exact hh.2.2.1 | exact hh.2.2.2 | exact hh.2.2.2.1 | exact hh.2.2.2.2 | exact hh.2.2.2.2.1 | exact hh.2.2.2.2.2 | exact hh.2.2.2.2.2.1 | exact hh.2.2.2.2.2.2 | exact hh.2.2.2.2.2.2.1 | exact hh.2.2.2.2.2.2.2 | exact hh.2.2.2.2.2.2.2.1 | exact hh.2.2.2.2.2.2.2.2 | exact hh.2.2.2.2.2.2.2.2.1 | exact hh.2.2.2.2.2.2.2.2.2 | exact hh.2.2.2.2.2.2.2.2.2.1 | exact hh.2.2.2.2.2.2.2.2.2.2 | exact hh.2.2.2.2.2.2.2.2.2.2.1 | exact hh.2.2.2.2.2.2.2.2.2.2.2 | exact hh.2.2.2.2.2.2.2.2.2.2.2.1 | exact hh.2.2.2.2.2.2.2.2.2.2.2.2 | exact hh.2.2.2.2.2.2.2.2.2.2.2.2.1 | exact hh.2.2.2.2.2.2.2.2.2.2.2.2.2 | exact hh.2.2.2.2.2.2.2.2.2.2.2.2.2.1 | exact hh.2.2.2.2.2.2.2.2.2.2.2.2.2.2 | exact hh.2.2.2.2.2.2.2.2.2.2.2.2.2.2.1 | exact hh.2.2.2.2.2.2.2.2.2.2.2.2.2.2.2 | exact hh.2.2.2.2.2.2.2.2.2.2.2.2.2.2.2.1 | exact hh.2.2.2.2.2.2.2.2.2.2.2.2.2.2.2.2 | exact hh.2.2.2.2.2.2.2.2.2.2.2.2.2.2.2.2.1 | exact hh.2.2.2.2.2.2.2.2.2.2.2.2.2.2.2.2.2 | exact hh.2.2.2.2.2.2.2.2.2.2.2.2.2.2.2.2.2.1 | exact hh.2.2.2.2.2.2.2.2.2.2.2.2.2.2.2.2.2.2 | exact hh.2.2.2.2.2.2.2.2.2.2.2.2.2.2.2.2.2.2.1 | exact hh.2.2.2.2.2.2.2.2.2.2.2.2.2.2.2.2.2.2.2 | exact hh.2.2.2.2.2.2.2.2.2.2.2.2.2.2.2.2.2.2.2.1 | exact hh.2.2.2.2.2.2.2.2.2.2.2.2.2.2.2.2.2.2.2.2 | exact hh.2.2.2.2.2.2.2.2.2.2.2.2.2.2.2.2.2.2.2.2.1 | exact hh.2.2.2.2.2.2.2.2.2.2.2.2.2.2.2.2.2.2.2.2.2 | exact hh.2.2.2.2.2.2.2.2.2.2.2.2.2.2.2.2.2.2.2.2.2.1 | exact hh.2.2.2.2.2.2.2.2.2.2.2.2.2.2.2.2.2.2.2.2.2.2)
  k_with "m lt" => first | k_extra "m lt0" | omega
  k_with "m ne0" => first | with_reducible assumption | exact Ne.symm (by with_reducible assumption) | exact Nat.ne_of_lt (by k_extra "m lt0") | exact Nat.ne_of_gt (by k_extra "m lt0")
  k_with "m fill" => (have hfill : Challenge.rw_pq0372_01 = Challenge.rw_pq0372_01 ∧ KF = KF := (by k_fill; exact ⟨rfl, rfl⟩); clear hfill)
  k_with "m around" => ((rename Around => mA'); (rcases mA' with ⟨_, _, _, _, _⟩); (have mE' := Calm.hh (by with_reducible assumption)); (dsimp only at mE'); subst mE')
  k_with "m enter0" => (k_extra "m around"; k_extra "m fill"; refine wpAny_call ?_; k_dflt (refine' enter0 (by assumption) (by assumption) (by assumption) (by k_is) (by k_is) (by exact BindsTo.of_eq rfl) (by exact locs rfl) ?_ (by exact rfl) (by exact rfl) (by exact rfl) (by decide); k_whole; intro _ _ _ _ _ _ _ _ _; (try dsimp only); (try k_fold)))
  k_with "m enterC0" => (k_extra "m around"; k_extra "m fill"; refine wpAny_call ?_; k_dflt (refine' enterC0 (by assumption) (by assumption) (by assumption) (by k_is) (by k_is) (by exact BindsTo.of_eq rfl) (by rfl) (by decide) ?_ (by exact rfl) (by exact rfl) (by exact rfl); k_whole; intro _ _ _ _ _ _ _ _ _ _ _; (try dsimp only); (try k_fold)))
  k_with "m cell1" => ((rename CellsAre _ _ _ => mY'); (with_unfolding_all have mY2' := CellsAre.one mY'); (obtain ⟨_, me', _⟩ := mY2'); (subst me'); clear mY')
  k_with "m cell2" => ((rename CellsAre _ _ _ => mY'); (with_unfolding_all have mY2' := CellsAre.two mY'); (obtain ⟨_, _, me', _, _⟩ := mY2'); (subst me'); clear mY')
  k_with "m tup" => first | assumption | exact fr_tup (by with_reducible assumption) (by with_reducible assumption) | exact News.isTup (by with_reducible assumption) (by news_mem)
  k_with "m list" => first | assumption | exact fr_list (by with_reducible assumption) (by with_reducible assumption) | exact News.isList (by with_reducible assumption) (by news_mem)
  k_with "call builtin:len" => (k_here; (with_reducible show wpAny _ _ (call (Value.builtin "len") [Value.ref _]) _ _ _); k_dflt first | (refine' len_tup (by k_extra "m tup") (by first | assumption | (with_reducible decide) | omega | (simp only [List.length_append, List.length_cons, List.length_nil]; first | decide | omega)) ?_; k_whole; intro _ _) | (refine' len_lst (by k_extra "m list") (by first | assumption | (with_reducible decide) | omega | (simp only [List.length_append, List.length_cons, List.length_nil]; first | decide | omega)) ?_; k_whole; intro _ _))
  k_with "subscriptTail" => (k_here; (with_reducible show wpAny _ _ (subscriptTail _ _ (Value.ref _) (Value.int (-1) _)) _ _ _); (with_unfolding_all refine' tup_last (by k_extra "m tup") (by first | assumption | rfl) ?_ (by with_unfolding_all rfl); k_whole))
  k_with "subscriptTail" => (k_here; (with_reducible show wpAny _ _ (subscriptTail _ _ (Value.ref _) (Value.int _ _)) _ _ _); (with_unfolding_all apply tup_at); (case ht => k_extra "m tup"); (first | ((case hk => with_unfolding_all rfl); (case hx => first | assumption | rfl)) | ((case hx => assumption); (case hk => omega))); (case hf => first | decide | omega); (case hs => with_unfolding_all rfl); k_whole)
  k_with "subscriptTail" => (k_here; (with_reducible show wpAny _ _ (subscriptTail _ _ (Value.ref _) (Value.int _ _)) _ _ _); (with_unfolding_all apply list_at); (case ht => k_extra "m list"); (first | ((case hk => with_unfolding_all rfl); (case hx => first | assumption | rfl)) | ((case hx => assumption); (case hk => omega))); (case hf => first | decide | omega); (case hs => with_unfolding_all rfl); k_whole)
  k_with "k inst" => exact instAt_base (by assumption) (by assumption) (by assumption)
  k_with "m stays" => first | with_reducible assumption | exact stays_fr (by with_reducible assumption) (by with_reducible assumption)
  k_with "m calm" => exact Calm.le (by assumption) (by decide)
  k_with "m kept" => ((rename Fr _ _ _ _ => kF'); (rename News _ _ _ _ => kN'); (refine kept_of (by with_reducible assumption) kF' kN' ?_); clear kF' kN'; intro _ _; (try dsimp only); (try k_fold))
  k_with "eval Name" => ((with_reducible show wpAny _ _ (eval (Expr.Name _ _) (compEnvC _ _ _ _)) _ _ _); k_dflt first | (apply comp_local; (case F => with_reducible assumption); (case hk => rfl); (case hl => with_unfolding_all rfl); (case hd => decide); (case hm => first | with_reducible assumption | with_unfolding_all rfl); k_whole) | (apply comp_cell; (case F => with_reducible assumption); (case hk => rfl); (case hl => with_unfolding_all rfl); (case hd => decide); (case hc => with_unfolding_all rfl); (case ho => assumption); (case hv => with_reducible assumption); k_whole) | (apply comp_builtin; (case F => with_reducible assumption); (case T => with_reducible assumption); (case k => with_reducible assumption); (case hg => rfl); (case hb => rfl); (case hk => rfl); (case hx => with_unfolding_all rfl); (case hd => decide); (case h2 => first | exact mb_max (by with_reducible assumption) | exact mb_min (by with_reducible assumption)); (case h1 => first | exact mg_max (by with_reducible assumption) | exact mg_min (by with_reducible assumption)); k_whole))
  k_with "call builtin:max" => ((with_reducible show wpAny _ _ (call (Value.builtin _) [Value.int _ _, Value.int _ _]) _ _ _); k_dflt (refine' comp_max (by with_reducible assumption) (by first | exact Calm.hh (by assumption) | with_unfolding_all rfl) ?_; k_whole; intro _ _ _ _ _))
  k_with "call builtin:min" => ((with_reducible show wpAny _ _ (call (Value.builtin _) [Value.int _ _, Value.int _ _]) _ _ _); k_dflt (refine' comp_min (by with_reducible assumption) (by first | exact Calm.hh (by assumption) | with_unfolding_all rfl) ?_; k_whole; intro _ _ _ _ _))
  k_with "newTuple" => (k_dflt (refine' comp_tuple (by with_reducible assumption) ?_ (by rfl); k_whole; intro _ _ _ _))
  k_with "call type:tuple" => ((with_reducible show wpAny _ _ (call (Value.type _) [Value.ref _]) _ _ _); k_dflt (refine' tuple_of (by with_reducible assumption) (by with_reducible assumption) (by k_extra "m list") (by first | assumption | omega) ?_; k_whole; intro _ _ _ _ _ _))
  k_with "call ref" => (k_here; (with_reducible show wpAny _ _ (call (Value.ref 77) _) _ _ _); k_dflt (refine' least_spec (by assumption) (by k_extra "m stays") (by k_extra "m calm") (by k_extra "m tup") (by assumption) (by k_extra "m tup") ?_; intro _ _ _ _; k_extra "m kept"))
  k_with "call ref" => (k_here; (with_reducible show wpAny _ _ (call (Value.ref 84) _) _ _ _); k_dflt (refine' greatest_spec (by assumption) (by k_extra "m stays") (by k_extra "m calm") (by k_extra "m tup") (by assumption) (by k_extra "m tup") ?_; intro _ _ _ _; k_extra "m kept"))
  k_with "call ref" => (k_here; (with_reducible show wpAny _ _ (call (Value.ref 183) _) _ _ _); k_dflt (refine' dom_spec (by assumption) (by k_extra "m stays") (by k_extra "m calm") (by k_extra "m desk") (by assumption) (by assumption) ?_; intro _ _ _; k_extra "m kept"))
  k_with "call ref" => (k_here; (with_reducible show wpAny _ _ (call (Value.ref 197) _) _ _ _); k_dflt (refine' low_spec (by assumption) (by k_extra "m stays") (by k_extra "m calm") (by k_extra "m desk") (by assumption) (by assumption) (by k_extra "m tup") (by assumption) (by k_extra "m tup") ?_; intro _ _ _ _; k_extra "m kept"))
  k_with "call ref" => (k_here; (with_reducible show wpAny _ _ (call (Value.ref 204) _) _ _ _); k_dflt (refine' high_spec (by assumption) (by k_extra "m stays") (by k_extra "m calm") (by k_extra "m desk") (by assumption) (by assumption) (by k_extra "m tup") (by assumption) (by k_extra "m tup") ?_; intro _ _ _ _; k_extra "m kept"))
  k_with "call ref" => (k_here; (with_reducible show wpAny _ _ (call (Value.ref 89) _) _ _ _); k_dflt (refine' size_spec (by assumption) (by k_extra "m stays") (by k_extra "m calm") (by k_extra "m tup") (by first | assumption | exact Prs.mono (Fr.keep (by with_reducible assumption)) (by with_reducible assumption)) (by assumption) ?_; intro _ _ _ _; k_extra "m kept"))
  k_with "m prs" => first | with_reducible assumption | exact Prs.mono (Fr.keep (by with_reducible assumption)) (by with_reducible assumption)
  k_with "call ref" => (k_here; (with_reducible show wpAny _ _ (call (Value.ref 108) _) _ _ _); k_dflt (refine' upTo_spec (by assumption) (by k_extra "m stays") (by k_extra "m calm") (by k_extra "m tup") (by k_extra "m prs") (by assumption) ?_; intro _ _ _ kc dc; (obtain ⟨ac, vc, ec, tc, pc⟩ := dc); subst ec; revert kc ac vc tc pc; intro _ _ _ _ _; k_extra "m kept"))
  k_with "call ref" => (k_here; (with_reducible show wpAny _ _ (call (Value.ref 113) _) _ _ _); k_dflt (refine' fromOn_spec (by assumption) (by k_extra "m stays") (by k_extra "m calm") (by k_extra "m tup") (by k_extra "m prs") (by assumption) ?_; intro _ _ _ kc dc; (obtain ⟨ac, vc, ec, tc, pc⟩ := dc); subst ec; revert kc ac vc tc pc; intro _ _ _ _ _; k_extra "m kept"))
  k_with "call ref" => (k_here; (with_reducible show wpAny _ _ (call (Value.ref 120) _) _ _ _); k_dflt (refine' without_spec (by assumption) (by k_extra "m stays") (by k_extra "m calm") (by k_extra "m tup") (by k_extra "m prs") (by assumption) ?_; intro _ _ _ kc dc; (obtain ⟨ac, vc, ec, tc, pc⟩ := dc); subst ec; revert kc ac vc tc pc; intro _ _ _ _ _; k_extra "m kept"))
  k_with "call ref" => (k_here; (with_reducible show wpAny _ _ (call (Value.ref 141) _) _ _ _); k_dflt (refine' struck_spec (by assumption) (by k_extra "m stays") (by k_extra "m calm") (by assumption) (by first | assumption | exact LitAt.mono (Fr.keep (by with_reducible assumption)) (by with_reducible assumption)) (by k_extra "m tup") (by k_extra "m prs") (by assumption) ?_; intro _ _ _ kc dc; (obtain ⟨ac, vc, ec, tc, pc⟩ := dc); subst ec; revert kc ac vc tc pc; intro _ _ _ _ _; k_extra "m kept"))
  k_with "m desk" => first | assumption | exact DeskR.mono (Fr.keep (by with_reducible assumption)) (by assumption) | exact DeskR.mono (by with_reducible assumption) (by assumption)
  k_with "call ref" => (k_here; (with_reducible show wpAny _ _ (call (Value.ref 232) _) _ _ _); k_dflt (refine' width_spec (by assumption) (by k_extra "m stays") (by k_extra "m calm") (by k_extra "m desk") (by assumption) (by assumption) (by k_extra "m tup") (by k_extra "m prs") (by assumption) ?_; intro _ _ _ _; k_extra "m kept"))
  k_with "call ref" => (k_here; (with_reducible show wpAny _ _ (call (Value.ref 218) _) _ _ _); k_dflt (refine' is_fixed_spec (by assumption) (by k_extra "m stays") (by k_extra "m calm") (by k_extra "m desk") (by assumption) (by assumption) (by k_extra "m tup") (by k_extra "m prs") (by assumption) (by assumption) ?_; intro _ _ _; k_extra "m kept"))
  k_with "m in" => (repeat' (first | exact List.forall_mem_nil _ | (refine in_cons ?_ ?_; (with_unfolding_all rfl))))
  k_with "m out" => (intro my' mhy'; (repeat' first | (with_reducible exact rfl) | refine out_mem mhy' (by with_reducible k_extra "m mem") ?_ | refine out_rmem mhy' (by with_reducible k_extra "m mem") ?_ | refine out_same mhy' ?_ _ (by rfl) | refine out_ov mhy' ?_ _ (by kernel_rfl)))
  k_with "m sub" => (intro mp' mhp'; (simp only [List.mem_cons, List.not_mem_nil, or_false, List.mem_append] at mhp' ⊢); (first | exact mhp' | (rcases mhp' with mhp' | mhp' <;> simp [mhp']) | simp [mhp']))
  k_with "m for range" => (k_here; k_dflt (refine' for_rangeF (by with_reducible assumption) (by with_unfolding_all rfl) ?_ (by rfl) (by with_unfolding_all rfl) (by rfl) (by (intro _; rfl)); k_whole))
  k_with "m for tup" => (k_here; k_dflt (refine' for_tupF (by with_reducible assumption) (by with_unfolding_all rfl) ?_ (by rfl) (by with_unfolding_all rfl) (by rfl) (by (intro _; rfl)); k_whole))
  k_with "m for pairs" => (k_here; k_dflt (refine' for_pairsF (by with_reducible assumption) (by with_unfolding_all rfl) ?_ (by rfl) (by with_unfolding_all rfl) (by with_unfolding_all rfl) (by rfl) (by (intro _; rfl)); k_whole))
  k_with "call ref" => (k_here; (with_reducible show wpAny _ _ (call (Value.ref 56) _) _ _ _); k_dflt (refine' median_spec (by assumption) (by k_extra "m stays") (by k_extra "m calm") (by k_extra "m desk") (by assumption) (by assumption) (by k_extra "m tup") (by k_extra "m prs") (by assumption) (by assumption) ?_; intro _ _ _ _; k_extra "m kept"))
  k_with "m map" => first | assumption | exact fr_map (by with_reducible assumption) (by with_reducible assumption)
  k_with "m br" => first | assumption | exact BrR.mono (Fr.keep (by with_reducible assumption)) (by assumption) | exact BrR.mono (by with_reducible assumption) (by assumption)
  k_with "call ref" => (k_here; (with_reducible show wpAny _ _ (call (Value.ref 42) _) _ _ _); k_dflt (refine' rank_spec (by assumption) (by k_extra "m stays") (by k_extra "m calm") (by k_extra "m desk") (by k_extra "m br") (by assumption) (by assumption) (by assumption) (by assumption) (by k_extra "m tup") (by k_extra "m prs") (by assumption) (by assumption) ?_; intro _ _ _ _ _ kc fc oc; (rename Fr _ _ _ _ => kF'); (rename News _ _ _ _ => kN'); (have F' := Fr.keeps kF' kc); (have N' := news_fresh kF' kN' kc fc oc); clear kF' kN'; revert kc fc oc F' N'; intro _ _ _ _ _; (try dsimp only); (try k_fold)))
  k_with "m vars" => first | assumption | exact VarsAt.mono (Fr.keep (by with_reducible assumption)) (by assumption) | exact VarsAt.mono (by with_reducible assumption) (by assumption)
  k_with "call ref" => (k_here; (with_reducible show wpAny _ _ (call (Value.ref 49) _) _ _ _); k_dflt (refine' next_spec' (by assumption) (by k_extra "m stays") (by k_extra "m calm") (by k_extra "m desk") (by k_extra "m br") (by assumption) (by k_extra "m vars") (by assumption) (by assumption) (by assumption) (by assumption) (by assumption) ?_; intro _ _ _ _; k_extra "m kept"))
  k_with "call ref" => (k_here; (with_reducible show wpAny _ _ (call (Value.ref 63) _) _ _ _); k_dflt (refine' choose_spec (by assumption) (by k_extra "m stays") (by k_extra "m calm") (by k_extra "m desk") (by k_extra "m br") (by assumption) (by k_extra "m vars") (by assumption) (by assumption) (by assumption) (by assumption) ?_; intro _ _ _ _ _; k_extra "m kept"))
  k_with "m unit" => first | exact Calm.u1 (by with_reducible assumption)
  k_with "m prs0" => first | exact Prs.mono (Fr.keep (by with_reducible assumption)) (by with_reducible assumption) | with_reducible assumption | exact prs_nil | k_extra "m prs"
  k_with "compareOp Eq ref ref" => (k_here; k_dflt (refine' eq_doms (by k_extra "m tup") (by k_extra "m prs0") (by k_extra "m tup") (by k_extra "m prs0") (by k_extra "m unit") ?_; k_whole))
  k_with "compareOp NotEq ref ref" => (k_here; k_dflt first | (apply ne_nil; (case hy => k_extra "m list"); (case hx => k_extra "m list"); (case hu => exact Calm.u (by with_reducible assumption)); k_whole) | (apply ne_doms; (case hx => k_extra "m tup"); (case px => k_extra "m prs0"); (case hy => k_extra "m tup"); (case py => k_extra "m prs0"); (case hu => k_extra "m unit"); k_whole))
  k_with "call builtin:list.append" => (k_here; (with_reducible show wpAny _ _ (call (Value.builtin _) [Value.ref _, _]) _ _ _); k_dflt (refine' append_L (by k_asm) (by k_asm) (by k_upd) (by first | assumption | omega | (simp only [List.length_append, List.length_cons, List.length_nil]; omega)) ?_; k_whole); intro _ _ N'; (try dsimp only [List.nil_append, List.cons_append] at N'); revert N'; intro _; (try k_sweep))
  k_with "m enter" => (k_extra "m around"; k_extra "m fill"; refine wpAny_call ?_; k_dflt (refine' enter _ (by assumption) (by assumption) (by assumption) (by assumption) (by k_is) (by k_is) (by exact BindsTo.of_eq rfl) (by exact locs rfl) ?_ (by exact rfl) (by exact rfl) (by exact rfl) (by decide); k_whole; intro _ _ _ _ _ _ _ _ _ _ _ _ _ _; (try dsimp only); (try k_fold)))
  k_with "setItem ref int" => (k_here; k_dflt (apply set_L; (case F => k_asm); (case N => k_asm); (case U => k_upd); (case hx => assumption); (case hz => assumption); k_whole); intro _ _ N'; (try dsimp only [List.nil_append, List.cons_append] at N'); revert N'; intro _)
  k_with "setItem ref int" => (k_here; k_dflt (refine' setD_L (by k_asm) (by k_asm) (by k_updF) (by assumption) (by assumption) ?_; k_whole); intro _ _ _ _ _ N'; (try dsimp only [List.nil_append, List.cons_append] at N'); revert N'; intro _)
  k_with "call builtin:list.pop" => (k_here; (with_reducible show wpAny _ _ (call (Value.builtin _) [Value.ref _]) _ _ _); k_dflt (apply pop_L; (case F => k_asm); (case N => k_asm); (case U => k_upd); (case hz => assumption); k_whole); intro _ _ N'; (try dsimp only [List.nil_append, List.cons_append] at N'); revert N'; intro _)
  k_with "m cls" => first | (simp only [ne_eq, Value.type.injEq, reduceCtorEq, not_false_eq_true]; done) | (simp; done) | ((rename Obj.cls _ = Value.type "dict" => hq'); rw [hq']; simp; done)
  k_with "k ne" => first | (refine neN ?_; (try dsimp only); first | k_extra "m ne0" | omega) | exact news_ne (by with_reducible assumption) (by k_mem) (by k_mem) (by k_extra "m cls")
  k_with "k all" => exact allLt_ne (by assumption)
  k_with "m own" => (intro _ _; k_ownIn)
  k_with "m tup" => first | assumption | exact fr_tup (by with_reducible assumption) (by with_reducible assumption) | exact News.isTup (by with_reducible assumption) (by news_mem) | exact InPn.tup (by with_reducible assumption) (by with_reducible assumption) (by with_reducible assumption) (by k_extra "m own")
  k_with "m prs0" => first | exact Prs.mono (Fr.keep (by with_reducible assumption)) (by with_reducible assumption) | with_reducible assumption | exact prs_nil | exact InPn.prs (by with_reducible assumption) (by with_reducible assumption) (by with_reducible assumption) (by k_extra "m own") | k_extra "m prs"
  k_with "m off" => (repeat' first | exact List.forall_mem_nil _ | (refine in_cons ?_ ?_; k_ne))
  k_with "m offall" => (repeat' first | exact List.forall_mem_nil _ | (refine in_cons ?_ ?_; k_all))
  k_with "k inst" => exact instAt_mixed (by assumption) (by assumption) (by assumption) (by k_mem)
  k_with "m full" => first | assumption | exact FullTups.mono (Fr.keep (by with_reducible assumption)) (by assumption)
  k_with "compareOp In ref ref" => (k_here; k_dflt (refine' in_firsts (by k_extra "m list") (by k_extra "m full") (by k_extra "m tup") (by k_extra "m unit") ?_; k_whole))
  k_with "m slice" => first | (apply slice_upto; (case F => k_asm); (case N => k_asm); (case hl => k_extra "m list"); (case hz => first | assumption | omega); (case hk => assumption); (case hj => assumption); (case hs => with_unfolding_all rfl); k_whole) | (apply slice_from; (case F => k_asm); (case N => k_asm); (case hl => k_extra "m list"); (case hz => first | assumption | omega); (case hk => assumption); (case hj => assumption); (case hs => with_unfolding_all rfl); k_whole)
  k_with "subscriptTail Attribute Slice ref ref" => (k_here; k_dflt (k_extra "m slice"); intro _ _ _ _ l'; (k_lt l'); revert l'; intro _; (try k_sweep))
  k_with "subscriptTail Name Slice ref ref" => (k_here; k_dflt (k_extra "m slice"); intro _ _ _ _ l'; (k_lt l'); revert l'; intro _; (try k_sweep))
  k_with "exec While Compare" => (k_here; k_dflt (refine' while_src (by with_reducible assumption) (by passes_own) ?_))
  k_with "call ref" => (k_here; (with_reducible show wpAny _ _ (call (Value.ref 309) _) _ _ _); k_dflt (refine' far_spec (by assumption) (by k_extra "m stays") (by k_extra "m calm") ?_; intro _ _ _ _; k_extra "m kept"))
  k_with "call ref" => (k_here; (with_reducible show wpAny _ _ (call (Value.ref 328) _) _ _ _); k_dflt (refine' many_spec (by assumption) (by k_extra "m stays") (by k_extra "m calm") (by k_extra "m list") (by k_extra "m prs") (by assumption) ?_; intro _ _ _ _; k_extra "m kept"))
  k_with "call ref" => (k_here; (with_reducible show wpAny _ _ (call (Value.ref 335) _) _ _ _); k_dflt (refine' half_spec (by assumption) (by k_extra "m stays") (by k_extra "m calm") (by k_extra "m list") (by k_extra "m prs") (by assumption) ?_; intro _ _ _; k_extra "m kept"))
  k_with "call ref" => (k_here; (with_reducible show wpAny _ _ (call (Value.ref 316) _) _ _ _); (rename Fr _ _ _ _ => kF'); (rename News _ _ _ _ => kN'); k_dflt (apply draw_spec; (case C => assumption); (case hB => k_extra "m stays"); (case hA => k_extra "m calm"); (case hm => exact hm_one kN' (by k_mem) (by with_reducible assumption)); (case hbo => assumption); (case hnm => assumption); (case hcl => k_extra "m list"); (case hcb => assumption); (case hci => assumption); (case hcz => assumption); (case hmany => first | assumption | omega | (simp only [Int.reduceToNat]; omega) | decide); (case hnb => omega); intro hc tkc oc rc tc kc ec bc r0c r1c; (try simp only [Int.reduceToNat] at r1c); (rename Obj.cls _ = Value.type "dict" => hold'); (have FN' := fr_upd kF' kN' (by k_updF) kc ec); (obtain ⟨F', N'⟩ := FN'); clear kF' kN' hold'; (have dcls' := BagIs.cls bc); (try dsimp only at N'); revert hc tkc oc rc tc kc ec bc r0c r1c F' N' dcls'; intro _ _ _ _ _ _ _ _ _ _ _ _ _; (try dsimp only); (try k_fold)))
  k_with "m ints" => (repeat' (first | exact List.forall_mem_nil _ | (refine (in_cons (⟨_, _, rfl, by (try dsimp only); (try simp only [Int.reduceToNat]); omega⟩) (?_)))))
  k_with "subscriptTail" => (k_here; (with_reducible show wpAny _ _ (subscriptTail _ _ (Value.ref _) (Value.int _ _)) _ _ _); first | (apply tup_pick (fun n => 0 ≤ n ∧ n ≤ 10 ^ 15); (case ht => exact News.isTup (by with_reducible assumption) (by k_mem)); (case h0 => assumption); (case h1 => (simp only [List.length_cons, List.length_nil]; omega)); (case hz => (simp only [List.length_cons, List.length_nil]; omega)); (case hall => k_extra "m ints"); k_whole; intro _ _ px; (have px1 := px.1); (have px2 := px.2); clear px; revert px1 px2; intro _ _) | (apply tup_pick (fun n => -(10 ^ 30) ≤ n ∧ n ≤ 10 ^ 30); (case ht => exact News.isTup (by with_reducible assumption) (by k_mem)); (case h0 => assumption); (case h1 => (simp only [List.length_cons, List.length_nil]; omega)); (case hz => (simp only [List.length_cons, List.length_nil]; omega)); (case hall => k_extra "m ints"); k_whole; intro _ _ px; (have px1 := px.1); (have px2 := px.2); clear px; revert px1 px2; intro _ _))
  k_with "newTuple" => (k_here; k_dflt (refine' newTuple_L (by k_asm) (by k_asm) ?_ (by size_fits); k_whole); intro _ _ _ _ l1; (k_lt l1); revert l1; intro _; (try k_sweep))
  k_with "m om" => ((try simp only [Int.reduceToNat]); omega)
  k_with "m for enum" => (k_here; k_dflt (refine' for_enumF (by with_reducible assumption) (by with_unfolding_all rfl) ?_ (by rfl) (by with_unfolding_all rfl) (by with_unfolding_all rfl) (by rfl) (by (intro _; rfl)); k_whole))
  k_with "call type:enumerate" => (k_here; k_dflt (refine' enum_call (by k_asm) (by k_asm) (by k_extra "m list") ?_; k_whole; intro _ _ _ _ _ _ _ _ _ _ _))
  k_with "m lots" => first | assumption | exact LotsAt.mono (Fr.keep (by with_reducible assumption)) (by assumption)
  k_with "call ref" => (k_here; (with_reducible show wpAny _ _ (call (Value.ref 347) _) _ _ _); k_dflt (refine' wanted_spec (by assumption) (by k_extra "m stays") (by k_extra "m calm") (by k_extra "m list") (by k_extra "m lots") (by k_extra "m list") (by assumption) (by assumption) (by assumption) (by k_extra "m list") (by assumption) (by assumption) (by assumption) ?_; intro _ _ _ _ _; k_extra "m kept"))
  k_with "call ref" => (k_here; (with_reducible show wpAny _ _ (call (Value.ref 354) _) _ _ _); k_dflt (refine' place_spec (by assumption) (by k_extra "m stays") (by k_extra "m calm") (by k_extra "m desk") (by k_extra "m br") (by assumption) (by k_extra "m vars") (by assumption) (by assumption) (by assumption) (by assumption) (by k_extra "m list") (by k_extra "m lots") (by assumption) (by assumption) ?_; intro _ _ _; k_extra "m kept"))
  k_with "m perm" => (repeat' first | exact List.forall_mem_nil _ | (refine in_cons ?_ ?_; k_extra "m mem") | (intro _ _; k_ownIn))
  k_with "m list" => first | with_reducible assumption | exact News.isList (by with_reducible assumption) (by k_mem) | exact fr_list (by with_reducible assumption) (by with_reducible assumption)
  k_with "m tup" => first | with_reducible assumption | exact News.isTup (by with_reducible assumption) (by k_mem) | exact fr_tup (by with_reducible assumption) (by with_reducible assumption)
  k_with "subscriptTail Name Slice ref ref" => (k_here; (with_reducible show wpAny _ _ (subscriptTail (PySem.Expr.Name (PySem.Str.ofString "script") _) _ _ _) _ _ _); k_dflt (refine' slice_take (j := 60) (by k_asm) (by k_asm) (by k_extra "m list") (by rfl) (by first | assumption | omega) ?_ (by with_unfolding_all rfl); k_whole); intro _ _ _ _ l'; (k_lt l'); revert l'; intro _; (try k_sweep))
  k_with "call type:list" => (k_here; (with_reducible show wpAny _ _ (call (Value.type _) [Value.ref _]) _ _ _); k_dflt (refine' list_of (by k_asm) (by k_asm) (by k_extra "m list") (by first | assumption | (simp only [List.length_take]; omega)) ?_; k_whole); intro _ _ _ _ _ l'; (k_lt l'); revert l'; intro _; (try k_sweep))
  k_with "exec For Name Call cons nil" => (k_here; k_dflt (refine' for_rangeKF (by with_reducible assumption) (by with_unfolding_all rfl) ?_ (by rfl) (by with_unfolding_all rfl) (by rfl) (by (intro _; rfl)); k_whole))
  k_with "call ref" => (k_here; (with_reducible show wpAny _ _ (call (Value.ref 298) _) _ _ _); k_dflt (refine' store_call (by assumption) (by with_reducible assumption) (by k_asm) (by k_asm) (by k_extra "m calm") ?_; k_whole); intro _ _ _ _ _ _ _ _ _ _ _ _ _ _ _ _ _ _ ls1 _ _ _ _ _ _; (k_lt ls1); revert ls1; intro _; (try dsimp only); (try k_fold))
  k_with "call ref" => (k_here; (with_reducible show wpAny _ _ (call (Value.ref 66) _) _ _ _); k_dflt (refine' brancher_call (by assumption) (by with_reducible assumption) (by k_asm) (by k_asm) (by k_extra "m calm") (by k_mem) (by assumption) ?_; k_whole); intro _ _ _ _ _ _ _ _ _ _ _ _ _ ls1 _ _; (k_lt ls1); revert ls1; intro _; (try dsimp only); (try k_fold))
  k_with "m list" => first | with_reducible assumption | exact News.isList (by with_reducible assumption) (by k_mem) | exact fr_list (by with_reducible assumption) (by with_reducible assumption) | exact LInPn.list (by with_reducible assumption) (by with_reducible assumption) (by with_reducible assumption) (by k_extra "m own") | exact LstPn.list (by with_reducible assumption) (by with_reducible assumption) (by with_reducible assumption) (by k_extra "m own")
  k_with "m nt1" => first | (simp; done) | (simp only [ne_eq]; rw [‹Obj.cls _ = Value.type "dict"›]; simp; done) | assumption | (exact fun q => by (rw [IntDictIs.cls (by assumption)] at q; simp at q))
  k_with "m nt" => (repeat' first | exact NotTupN.nil | refine NotTupN.cons (by k_extra "m mem") (by k_extra "m nt1") ?_)
  k_with "k all" => exact OwnOff.at (by with_reducible assumption) (by k_mem)
  k_with "k ne" => first | exact Apart.ne (by with_reducible assumption) | exact (Apart.ne (by with_reducible assumption)).symm | exact news_ne (by with_reducible assumption) (by k_mem) (by k_mem) (by k_extra "m cls") | (refine neN ?_; (try dsimp only); first | k_extra "m ne0" | omega)
  k_with "m lots" => first | with_reducible assumption | exact LPn.at (by with_reducible assumption) (by with_reducible assumption) (by with_reducible assumption) (by k_extra "m own")
  k_with "m vars" => first | with_reducible assumption | exact VPn.at (by with_reducible assumption) (by with_reducible assumption) (by with_reducible assumption) (by k_extra "m own")
  k_with "m desk" => first | with_reducible assumption | exact DeskR.ofLed (by with_reducible assumption) (by k_mem) (by k_mem) (by k_mem)
  k_with "m br" => first | with_reducible assumption | exact BrR.ofLed (by with_reducible assumption) (by with_reducible assumption) (by with_reducible assumption) (by k_extra "m own") (by k_mem) (by k_mem) (by with_reducible assumption)
  k_with "m prs" => first | with_reducible assumption | exact InPn.prs (by with_reducible assumption) (by with_reducible assumption) (by with_reducible assumption) (by k_extra "m own") | exact LInPn.prs (by with_reducible assumption) (by with_reducible assumption) (by with_reducible assumption) (by k_extra "m own") | exact Prs.mono (Fr.keep (by with_reducible assumption)) (by with_reducible assumption)
  k_with "m tup" => first | with_reducible assumption | exact News.isTup (by with_reducible assumption) (by k_mem) | exact InPn.tup (by with_reducible assumption) (by with_reducible assumption) (by with_reducible assumption) (by k_extra "m own") | exact fr_tup (by with_reducible assumption) (by with_reducible assumption)
  k_with "binaryOp Add ref ref" => (k_here; (with_reducible show wpAny _ _ (binaryOp _ (Value.ref _) (Value.ref _)) _ _ _); k_dflt (refine' add_L (by k_asm) (by k_asm) (by k_extra "m list") (by k_extra "m list") (by first | assumption | ((simp only [List.length_append, List.length_cons, List.length_nil, List.length_take, List.length_drop]); omega)) ?_; k_whole); intro _ _ _ _ l'; (k_lt l'); revert l'; intro _; (try k_sweep))
  k_with "call ref" => (k_here; (with_reducible show wpAny _ _ (call (Value.ref 354) _) _ _ _); k_dflt (refine' place_spec (by assumption) (by k_extra "m stays") (by k_extra "m calm") (by k_extra "m desk") (by k_extra "m br") (by assumption) (by k_extra "m vars") (by assumption) (by assumption) (by assumption) (by assumption) (by k_extra "m list") (by k_extra "m lots") (by exact place_zz (by assumption) (by assumption)) (by assumption) ?_; intro _ _ _; k_extra "m kept"))
  k_with "m cls" => first | (simp only [ne_eq, Value.type.injEq, reduceCtorEq, not_false_eq_true]; done) | (simp; done) | ((rename Obj.cls _ = Value.type "dict" => hq'); rw [hq']; simp; done) | ((rename IntDictIs _ _ => hq'); rw [hq'.1]; simp; done)
  k_with "m perm2" => (repeat' first | exact List.forall_mem_nil _ | (refine in_cons ?_ ?_; first | with_reducible assumption | k_extra "m mem") | (intro _ _; k_ownIn))
  trivial
section
theorem off98y : True := by
  w_top off
  trivial
inductive VarsJ (w : World) (g : Heap) (L b dl fl ll a D tl ml nd ca : Addr) (hs : Nat → Int) (ts : Nat → Tok) (vsp vi vc : Value) (odn ocl : Obj) (cs : List Value) (cver : Nat) (m0 : PySem.Str → Option Value) (i : Nat) (m : PySem.Str → Option Value) (news : List (Addr × Obj)) : Prop
  | mk (ob : Obj) (lv dv : List Value) (n1 n2 n5 n' : Nat) (pn : List (Addr × Obj)) (u1 : Option Value) (doms : List Rng) (em : m = ov [(Str.ofString "x", u1)] m0)
    (en : news = (b, ob) :: (dl, lstObj dv n1) :: (fl, lstObj dv n2) :: (ll, lstObj lv n5) :: (a, storeObj D) :: (D, dictOf (storeEs hs ts (.ref dl) (.ref fl) (.ref tl) (.ref ml) (.ref nd) vsp vi vc) 8) :: (tl, lstObj [] 0) :: (ml, lstObj [] 0) :: (nd, odn) :: (ca, lstObj cs cver) :: (L + 1, ocl) :: pn)
    (a1 : BagIs w ob ca n') (a2 : n' ≤ 1 + 50 * i) (a3 : OwnOff pn [b, dl, fl, ll, D, tl, ml, nd]) (a4 : VPn g pn dv doms) (a5 : LPn g pn lv doms) (a6 : doms.length = i) (a7 : ∀ rs ∈ doms, Good rs ∧ rs ≠ [] ∧ rs.length ≤ 4) : VarsJ w g L b dl fl ll a D tl ml nd ca hs ts vsp vi vc odn ocl cs cver m0 i m news
set_option pp.deepTerms false
set_option pp.deepTerms.threshold 4
theorem law_main {w : World} {mean : ExcName → Option Value} {mg mb : PySem.Str → Option Value} {s : Shared} {g : Heap} {l fa : Addr} {cd : Value} {vs : List Value} {ns : List Int} {oc : Obj} {L : Addr} {Q : Flow → Shared → Prop} {E : Value → Shared → Prop}
    (C : Core w mean mg mb g) (hci : IntsAre vs ns) (hsl : g.IsList l vs.toArray) (hsz : ns.length ≤ 63) (F : Fr g L s.heap (bindL (lawEnv L fa cd).kindOf [(Str.ofString "script", .ref l)] fun _ => none)) (N : News g L s.heap [(L + 1, oc)]) (hoc : oc.data = .cell none)
    (hA : Calm (callerA.deeper (lawEnv L fa cd)) 20) (hret : ∀ h tk m, Fr g L h m → Q (.ret (.bool true)) { s with heap := h, toks := tk }) :
    wpAny (model PR w) (callerA.deeper (lawEnv L fa cd)) (execs lawBody (lawEnv L fa cd)) Q E s := by
  have hvl := IntsAre.length hci
  have hsz2 : vs.length ≤ 63 := by omega
  have X := C.X
  have T := C.T
  have kk : Stays g g := fun _ _ e => e
  k_extra "m fill"
  conv => arg 3; arg 1; whnf
  obtain ⟨sc, hsc⟩ : ∃ sc, sc = lawScope := ⟨_, rfl⟩
  have hA0 := hA
  simp only [lawEnv, ← hsc] at F hA ⊢
  conv at hsc => rhs; whnf
  subst hsc
  try k_fold
  k_steps
  rename_i b hh9 o2 hbs hd1 lq1 sl0 hh8 lq2 ca cver hh7 lq3 hh6 ob hdb hh5 tkq a D dl fl tl ml nd odn hs ts vsp vi vc hnd lq4 lq5 lq6 lq7 lq8 lq9 lq10 ll hh4 lq11 tpl hh3 lq12 hh2 hh1 ocl hocl hh0 hhx F1 N1
  have hbag : BagIs w ob ca 0 := ⟨_, hdb⟩
  have hbc := hbag.cls
  have hbB : g.get? b = none := (N1 (b, ob) (by k_mem)).2.2
  have hcb : ca ≠ b := Ne.symm (Nat.ne_of_lt (by k_extra "m lt"))
  have hci2 : IntsAre (vs.take 60) (ns.take 60) := hci.take 60
  have hcz : (ns.take 60).length ≤ 100 := by rw [List.length_take]; omega
  clear hdb hd1
  k_steps
  rename_i hh tkh obh rc tch kh eh bagh r0 r1 F2 N2 clsh h6 tk6 t6 u6 v6 R3 F3 N3 k3
  clear F2 N2
  obtain ⟨n, rfl⟩ := Int.eq_ofNat_of_zero_le r0
  rw [show (1 : Int) + (n : Int) = ((1 + n : Nat) : Int) by omega] at R3
  have hn3 : 1 + n ≤ 3 := by omega
  refine with_map F3 fun m0 em0 F4 => ?_
  have N4 : News g L h6 [(b, obh), (dl, lstObj [] 0), (fl, lstObj [] 0), (ll, lstObj [] 0), (a, storeObj D), (D, dictOf (storeEs hs ts (.ref dl) (.ref fl) (.ref tl) (.ref ml) (.ref nd) vsp vi vc) 8), (tl, lstObj [] 0), (ml, lstObj [] 0), (nd, odn), (ca, lstObj (vs.take 60) cver), (L + 1, ocl)] :=
    news_c (N3 (b, obh) (by k_mem)) <| news_c (N3 (dl, lstObj [] 0) (by k_mem)) <| news_c (N3 (fl, lstObj [] 0) (by k_mem)) <| news_c (N3 (ll, lstObj [] 0) (by k_mem)) <| news_c (N3 (a, storeObj D) (by k_mem)) <| news_c (N3 (D, dictOf (storeEs hs ts (.ref dl) (.ref fl) (.ref tl) (.ref ml) (.ref nd) vsp vi vc) 8) (by k_mem)) <| news_c (N3 (tl, lstObj [] 0) (by k_mem)) <| news_c (N3 (ml, lstObj [] 0) (by k_mem)) <| news_c (N3 (nd, odn) (by k_mem)) <| news_c (N3 (ca, lstObj (vs.take 60) cver) (by k_mem)) <| news_c (N3 (L + 1, ocl) (by k_mem)) News.nil
  refine ⟨_, 1 + n, _, _, _, VarsJ w g L b dl fl ll a D tl ml nd ca hs ts vsp vi vc odn ocl (vs.take 60) cver m0, _, _, rfl, R3, by omega, F3, N4,
    ⟨obh, [], [], 0, 0, 0, 1, [], m0 (Str.ofString "x"), [], (by subst em0; exact ov_eq _ (by k_extra "m in") (by k_extra "m out")), rfl, bagh, by omega, (by intro _ q; simp at q), ⟨rfl, fun _ _ q => by simp at q⟩, ⟨rfl, fun _ _ q => by simp at q⟩, rfl, by intro _ q; simp at q⟩, ?_, ?_⟩
  · rintro i h tk m I oI news ti E' hi ⟨ob2, lv, dv, n1, n2, n5, n', pn, u1, doms, rfl, rfl, bag2, hn', hoff, hV, hLt, hdl, hgood⟩ F5 N5 hne5 hoI
    subst em0
    clear F3 F4 N3 N4 clsh bagh
    have hI1 : @Ne Nat b I := hne5 _ (by k_mem)
    have hI2 : @Ne Nat dl I := hne5 (dl, lstObj dv n1) (by k_mem)
    have hI3 : @Ne Nat fl I := hne5 (fl, lstObj dv n2) (by k_mem)
    have hI4 : @Ne Nat ll I := hne5 (ll, lstObj lv n5) (by k_mem)
    k_steps
    rename Fr _ _ _ _ => F6
    rename News _ _ _ _ => N6
    have bc2 := bag2.cls
    have hS6 : NotTup _ [I, b, dl, fl, ll, D, tl, ml, nd] := newsNotTup N6 (by k_extra "m nt")
    refine ranges_spec C (stays_fr kk F6) (by k_extra "m calm") bag2 (hm_one N6 (by k_mem) hbB) hbs (N6.isList (by k_mem)) hcb hci2 hcz (by omega) fun h' tk' ob3 n3 rl rvs rver rs k1 e1 b3 hn3 e2 e3 p3 good3 ne3 len3 => ?_
    have FN := fr_upd F6 N6 (by k_updF) k1 e1
    obtain ⟨F8, N8⟩ := FN
    have rlf := fresh_of F6 e3
    have rlo := fresh_off e3 hS6
    have bc3 := b3.cls
    clear F6 N6 hS6 bc2
    try dsimp only at N8
    have hS8 : NotTup h' [I, b, dl, fl, ll, D, tl, ml, nd] := newsNotTup N8 (by k_extra "m nt")
    obtain ⟨pn2, N9, off2, lin2⟩ := absorbL F8 N8 e2 rlf.1 rlf.2 p3 _ hS8 rlo
    clear N8 hS8 rlf rlo
    simp only [List.cons_append] at N9
    obtain ⟨pn3, hp3⟩ : ∃ pn3, pn3 = pn ++ pn2 := ⟨_, rfl⟩
    rw [← hp3] at N9
    have off3 : OwnOff pn3 [b, dl, fl, ll, D, tl, ml, nd] := hp3 ▸ OwnOff.app hoff fun p hp c hc => off2 p hp c (.tail _ hc)
    have hneI : ∀ p ∈ pn3, @Ne Nat p.1 I := fun p hp => by
      rcases List.mem_append.mp (hp3 ▸ hp) with hp | hp
      · exact hne5 p (.tail _ (.tail _ (.tail _ (.tail _ (.tail _ (.tail _ (.tail _ (.tail _ (.tail _ (.tail _ (.tail _ hp)))))))))))
      · exact off2 p hp I (.head _)
    have lin3 : LInPn g pn3 rl rvs rs := lin2.more fun p hp => hp3 ▸ List.mem_append_right _ hp
    have hV3 : VPn g pn3 dv doms := hV.more fun p hp => hp3 ▸ List.mem_append_left _ hp
    have hL3 : LPn g pn3 lv doms := hLt.more fun p hp => hp3 ▸ List.mem_append_left _ hp
    clear hp3 hoff off2 lin2 hV hLt e1 k1 e2 e3 p3
    have hlv : lv.length = i := by rw [hL3.1, hdl]
    have hlx : (lv ++ [Value.ref rl])[i]? = some (.ref rl) := by rw [← hlv]; simp
    have hif : i < 2 ^ 62 := by omega
    have hlz : lv.length ≤ 1000 := by omega
    have hrl := (lin3.prs F8 N9 (by k_extra "m own")).length
    have hrz : rvs.length ≤ sizeLine := le_sizeLine (by omega)
    k_steps
    rename Fr _ _ _ _ => F10
    rename News _ _ _ _ => N10
    rename_i hA1 FA NA dt hA2 htz kA
    have hdI : @Ne Nat dt I := fun q => by
      have y := (NA (I, oI) (by k_mem)).1
      rw [← show dt = I from q, htz] at y; cases y
    have hdS := fresh_off htz (newsNotTup NA (S := [b, dl, fl, ll, D, tl, ml, nd]) (by k_extra "m nt"))
    have hdt := N10.isTup (a := dt) (by k_mem)
    have hdp := lin3.prs F10 N10 (by k_extra "m own")
    have hdv : dv.length = i := by rw [hV3.1, hdl]
    refine newvar_spec C (stays_fr kk F10) (by k_extra "m calm") (N10.get (a := D) (by k_mem)) (N10.get (a := a) (by k_mem)) hdt hdp ne3 (by omega)
      ((in_cons (⟨(N10 (dl, lstObj dv n1) (by k_mem)).1, (N10 (dl, lstObj dv n1) (by k_mem)).2.2⟩) ((in_cons (⟨(N10 (fl, lstObj dv n2) (by k_mem)).1, (N10 (fl, lstObj dv n2) (by k_mem)).2.2⟩) (List.forall_mem_nil _)))))
      (Nat.ne_of_lt (by k_extra "m lt")) (by simp only [List.mem_cons, List.not_mem_nil, or_false, not_or]; exact ⟨Nat.ne_of_lt (by k_extra "m lt"), Nat.ne_of_lt (by k_extra "m lt")⟩) (by simp only [List.mem_cons, List.not_mem_nil, or_false, not_or]; exact ⟨Nat.ne_of_lt (by k_extra "m lt"), Nat.ne_of_lt (by k_extra "m lt")⟩) (by omega) (by omega) fun h2 tk2 v2 k2 e5 e6 => ?_
    have FN := fr_upd2 F10 N10 (by k_updF) (by (try dsimp only); k_updF) k2 e5 e6 (Nat.ne_of_lt (by k_extra "m lt"))
    obtain ⟨F11, N11⟩ := FN
    try dsimp only at N11
    clear F10 N10
    k_steps
    have lin4 : LInPn g ((dt, tupObj rvs) :: pn3) rl rvs rs := lin3.more fun p hp => .tail _ hp
    have hin4 : InPn g ((dt, tupObj rvs) :: pn3) dt rvs rs := fun hh k1 k2 => ⟨⟨_, k2 _ (.head _), rfl, _, rfl⟩, (lin4 hh k1 k2).2⟩
    exact ⟨h2, _, _, _, (b, ob3) :: (dl, lstObj (dv ++ [.ref dt]) (n1 + 1)) :: (fl, lstObj (dv ++ [.ref dt]) (n2 + 1)) :: (ll, lstObj (lv ++ [.ref rl]) (n5 + 1)) :: (a, storeObj D) :: (D, dictOf (storeEs hs ts (.ref dl) (.ref fl) (.ref tl) (.ref ml) (.ref nd) vsp vi vc) 8) :: (tl, lstObj [] 0) :: (ml, lstObj [] 0) :: (nd, odn) :: (ca, lstObj (vs.take 60) cver) :: (L + 1, ocl) :: (dt, tupObj rvs) :: pn3,
      rfl, F11, N11, (by k_extra "m perm"), (by k_extra "m perm"), sep1 ((in_cons hI1 ((in_cons hI2 ((in_cons hI3 ((in_cons hI4 ((in_cons (hne5 (a, storeObj D) (by k_mem)) ((in_cons (hne5 (D, dictOf (storeEs hs ts (.ref dl) (.ref fl) (.ref tl) (.ref ml) (.ref nd) vsp vi vc) 8) (by k_mem)) ((in_cons (hne5 (tl, lstObj [] 0) (by k_mem)) ((in_cons (hne5 (ml, lstObj [] 0) (by k_mem)) ((in_cons (hne5 (nd, odn) (by k_mem)) ((in_cons (hne5 (ca, lstObj (vs.take 60) cver) (by k_mem)) ((in_cons (hne5 (L + 1, ocl) (by k_mem)) (in_cons hdI hneI))))))))))))))))))))))),
      ob3, lv ++ [.ref rl], dv ++ [.ref dt], n1 + 1, n2 + 1, n5 + 1, n3, (dt, tupObj rvs) :: pn3, _, doms ++ [rs], ov_eq _ (by k_extra "m in") (by k_extra "m out"), rfl, b3, by omega, OwnOff.cons hdS off3, (hV3.more fun p hp => .tail _ hp).snoc hin4 ne3 (by omega), (hL3.more fun p hp => .tail _ hp).snoc lin4 ne3 (by omega), by simp [hdl],
      fun r hr => by
        rcases List.mem_append.mp hr with hr | hr
        · exact hgood r hr
        · cases List.mem_singleton.mp hr; exact ⟨good3, ne3, len3⟩⟩
  · rintro h tk m news ⟨ob2, lv, dv, n1, n2, n5, n', pn, u1, doms, rfl, rfl, bag2, hn', hoff, hV, hLt, hdl, hgood⟩ F5 N5
    subst em0
    clear F3 F4 N3 N4
    dsimp only
    refine with_map F5 fun M eM F6 => ?_
    exact law_b C hA0 hocl (fr_ov (m₀ := M) _ F6 (by subst eM; k_extra "m in") (fun y _ => rfl)) N5 bag2 (by omega) hoff hV hLt (by omega) (by omega) hgood hci2 hcz hbs hnd ⟨(show @LT.lt Nat _ (L + 1) b by k_extra "m lt"), (show @LT.lt Nat _ b ca by k_extra "m lt"), (show @LT.lt Nat _ ca D by k_extra "m lt"), (show @LT.lt Nat _ D a by k_extra "m lt"), (show @LT.lt Nat _ a dl by k_extra "m lt"), (show @LT.lt Nat _ dl fl by k_extra "m lt"), (show @LT.lt Nat _ fl tl by k_extra "m lt"), (show @LT.lt Nat _ tl ml by k_extra "m lt"), (show @LT.lt Nat _ ml nd by k_extra "m lt"), (show @LT.lt Nat _ nd ll by k_extra "m lt")⟩ hret

end
end Mine
set_option maxRecDepth 100000 in
set_option maxHeartbeats 8000000 in
theorem PySem.Challenge.cw_pq0372_01_holds : PySem.Challenge.rw_pq0372_01.Holds :=
  holds_law Mine.said fun hsaid => by
  w_on
  refine holds_open (q := Mine.VW) (loose := Mine.LS) (XP := XL Mine.VW []) (YP := Hook.says Mine.HK) Mine.left (Hook.of _) (Hook.keeps _) (fun s e => xl_of s (Bool.and_eq_true_iff.mp e).1) XL.keeps (by rfl) (by rfl) (by rfl) (fun s e => recFacts_of (Bool.and_eq_true_iff.mp e).2) (by rfl) hsaid (by decide +kernel) ⟨rfl, rfl, rfl, rfl, rfl, by decide +kernel⟩ ?hw ?hc
  case hw => w_witness2
  k_fill
  intro w s₀ s₁ mg mb G Y fa o pm cd doc dV kV ho hd hcd hD hmg hg args vals as hpre hlay hrd hwl hlo
  have KX := kIn_of Y
  have X := (Ground.X G).1
  have V := (Ground.X G).2
  refine Ground.open G ?_
  intro T B D TE TW
  try (refine guard_noD D (by decide +kernel) ?_; clear D)
  obtain ⟨_, _, M⟩ := bmod_of_top T
  have TA := at_of_top T
  try (obtain ⟨_, _, he, B0⟩ := based_of_top T rfl hmg ho hd; have he' : cd = _ := he; subst he'; clear he)
  clear hmg
  wrow_args hpre hlay hrd hwl hlo
  all_goals (
    first | refine callC_kw (enter_call ?_) | refine enter_call ?_ | refine callC_kw (enter_callW ?_) | refine enter_callW ?_ | w_how
    w_top on
    try refine codeAny_mono ?_ (fun _ _ g => GoodW.toG g)
    have K0 := below_caller (Top.heap T)
    w_call any ho hd hcd hD T F
    clear hd TA
    k_drop
    skip)
  all_goals (try k_fold)
  rename IntsAre _ _ => hci
  rename Heap.IsList _ _ _ => hsl
  rename ¬ _ => hsz
  rename Frag.In _ _ => KX
  rename Top _ _ _ _ _ _ => TT
  rename Fr _ _ _ _ => F0
  rename News _ _ _ _ => N0
  rename _ = Data.cell _ => md
  refine Mine.law_main ⟨KX, TT⟩ hci hsl (by omega) F0 N0 md (Mine.Calm.deeper ⟨rfl, by decide, by decide⟩ _) (fun h tk m F => ?_)
  k_steps
