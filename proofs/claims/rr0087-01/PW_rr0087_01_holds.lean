import PyProof.Rows.All
import Wide.All
import OpenK.AllK
import Wide.FinOn
import KE.KLcTest
import KE.KDictOf
import Lean
import PySem.Challenge.RW_rr0087_01
set_option Elab.async false
set_option linter.all false
set_option bootstrap.genMatcherCode false
section
open PySem PySem.W PyProof.Rows
set_option Elab.async false
set_option maxRecDepth 100000
set_option maxHeartbeats 0
namespace Mine
noncomputable abbrev pw : Program := PySem.Challenge.pw_rr0087_01
/-- the i-th statement of the text; the j-th of the class at i -/
noncomputable def st (i : Nat) : Stmt := pw.main.body.getD i (.Pass ⟨0, 0, 0, 0⟩)
noncomputable def inCls : Stmt → List Stmt
  | .ClassDef _ _ _ b .. => b
  | _ => []
noncomputable def mt (i j : Nat) : Stmt := (inCls (st i)).getD j (.Pass ⟨0, 0, 0, 0⟩)
/-- a def's own data: its parameters, body and scope are read off the text -/
noncomputable abbrev fnAt {n : Str} {a : Arguments} {b : List Stmt} {d : List Expr} {r : Option Expr} {t : List TypeParam} {c : Scope} {tc : Option Scope} {bi : Str} {p : Pos} (s : Stmt) (_ : s = .FunctionDef n a b d r t c tc bi p)
    (name qual : Str) (closure : List (Str × Addr)) (dV kV doc pm : Value) (an : Option Addr) (cdv ct : Value) : FuncData :=
  { name, qualname := qual, params := a, body := .stmts b, scope := c, globals := 3, closure, defaults := dV, kwdefaults := kV, doc, pyModule := pm, annotations := an, code := cdv, closureTuple := ct }
noncomputable def heap : Params → Frag := fun P =>
  (nat_lit 2, { cls := .none, data := .dict #[{ hash := PyData.keyHash P (.ofString "type.__subclasses__.Exception.0"), key := .str (.ofString "type.__subclasses__.Exception.0") 231, val := .int 45 0 }, { hash := PyData.keyHash P (.ofString "type.__subclasses__.Exception.n"), key := .str (.ofString "type.__subclasses__.Exception.n") 232, val := .int 1 0 }] 2 }) ::
  (nat_lit 3, { cls := .type "dict", data := .dict #[{ hash := PyData.keyHash P (.ofString "__name__"), key := .str (.ofString "__name__") 165, val := .str (.ofString "law_rr0087_01") 465 }, { hash := PyData.keyHash P (.ofString "__doc__"), key := .str (.ofString "__doc__") 166, val := .none }, { hash := PyData.keyHash P (.ofString "__package__"), key := .str (.ofString "__package__") 167, val := .none }, { hash := PyData.keyHash P (.ofString "__loader__"), key := .str (.ofString "__loader__") 168, val := .builtin "__main__.__loader__#opaque" }, { hash := PyData.keyHash P (.ofString "__spec__"), key := .str (.ofString "__spec__") 169, val := .none }, { hash := PyData.keyHash P (.ofString "__annotations__"), key := .str (.ofString "__annotations__") 170, val := .ref 6 }, { hash := PyData.keyHash P (.ofString "__builtins__"), key := .str (.ofString "__builtins__") 171, val := .ref 4 }, { hash := PyData.keyHash P (.ofString "__file__"), key := .str (.ofString "__file__") 173, val := .str (.ofString "/claim/cut.py") 172 }, { hash := PyData.keyHash P (.ofString "__cached__"), key := .str (.ofString "__cached__") 174, val := .none }, { hash := PyData.keyHash P (.ofString "normal_of"), key := .str (.ofString "normal_of") 194, val := .ref 19 }, { hash := PyData.keyHash P (.ofString "FinderError"), key := .str (.ofString "FinderError") 234, val := .ref 45 }, { hash := PyData.keyHash P (.ofString "LimitFault"), key := .str (.ofString "LimitFault") 250, val := .ref 58 }, { hash := PyData.keyHash P (.ofString "MOST_ROWS"), key := .str (.ofString "MOST_ROWS") 254, val := .int 2000000 253 }, { hash := PyData.keyHash P (.ofString "set_of"), key := .str (.ofString "set_of") 260, val := .ref 65 }, { hash := PyData.keyHash P (.ofString "set_of_sets"), key := .str (.ofString "set_of_sets") 261, val := .ref 65 }, { hash := PyData.keyHash P (.ofString "univ_of"), key := .str (.ofString "univ_of") 267, val := .ref 70 }, { hash := PyData.keyHash P (.ofString "iden_of"), key := .str (.ofString "iden_of") 273, val := .ref 75 }, { hash := PyData.keyHash P (.ofString "union"), key := .str (.ofString "union") 281, val := .ref 82 }, { hash := PyData.keyHash P (.ofString "meet"), key := .str (.ofString "meet") 287, val := .ref 87 }, { hash := PyData.keyHash P (.ofString "minus"), key := .str (.ofString "minus") 293, val := .ref 92 }, { hash := PyData.keyHash P (.ofString "is_within"), key := .str (.ofString "is_within") 301, val := .ref 99 }, { hash := PyData.keyHash P (.ofString "product"), key := .str (.ofString "product") 307, val := .ref 104 }, { hash := PyData.keyHash P (.ofString "join"), key := .str (.ofString "join") 313, val := .ref 109 }, { hash := PyData.keyHash P (.ofString "turned"), key := .str (.ofString "turned") 319, val := .ref 114 }, { hash := PyData.keyHash P (.ofString "closure"), key := .str (.ofString "closure") 328, val := .ref 121 }, { hash := PyData.keyHash P (.ofString "star"), key := .str (.ofString "star") 336, val := .ref 128 }, { hash := PyData.keyHash P (.ofString "override"), key := .str (.ofString "override") 342, val := .ref 133 }, { hash := PyData.keyHash P (.ofString "ahead"), key := .str (.ofString "ahead") 348, val := .ref 138 }, { hash := PyData.keyHash P (.ofString "behind"), key := .str (.ofString "behind") 354, val := .ref 143 }, { hash := PyData.keyHash P (.ofString "MOST_WAYS"), key := .str (.ofString "MOST_WAYS") 358, val := .int 1000000 357 }, { hash := PyData.keyHash P (.ofString "Evaluator"), key := .str (.ofString "Evaluator") 464, val := .ref 210 }, { hash := PyData.keyHash P (.ofString "_law_draw"), key := .str (.ofString "_law_draw") 475, val := .ref 221 }, { hash := PyData.keyHash P (.ofString "_law_atom"), key := .str (.ofString "_law_atom") 485, val := .ref 228 }, { hash := PyData.keyHash P (.ofString "_law_drawn"), key := .str (.ofString "_law_drawn") 491, val := .ref 233 }, { hash := PyData.keyHash P (.ofString "_law_rows"), key := .str (.ofString "_law_rows") 497, val := .ref 238 }, { hash := PyData.keyHash P (.ofString "_law_holds"), key := .str (.ofString "_law_holds") 509, val := .ref 245 }, { hash := PyData.keyHash P (.ofString "_law_many"), key := .str (.ofString "_law_many") 515, val := .ref 250 }, { hash := PyData.keyHash P (.ofString "_law_is_plain"), key := .str (.ofString "_law_is_plain") 521, val := .ref 255 }, { hash := PyData.keyHash P (.ofString "_law_contrary"), key := .str (.ofString "_law_contrary") 527, val := .ref 260 }, { hash := PyData.keyHash P (.ofString "law"), key := .str (.ofString "law") 533, val := .ref 265 }] 40 }) ::
  (nat_lit 18, { cls := .type "code", data := .fields #[.str (.ofString "normal_of") 189, .str (.ofString "normal_of") 190, .str (.ofString "/claim/cut.py") 191, .int 2 0, .int 2 0, .int 0 0, .int 0 0, .int 3 0, .ref 15, .bool true, .int 181 0, .ref 16, .none, .none, .none, .ref 17, .int 192 0, .int 2 0, .str (.ofString "/claim/cut.py") 193] }) ::
  (nat_lit 19, { cls := .type "function", data := .func (fnAt (st 1) rfl (.ofString "normal_of") (.ofString "normal_of") [] (.none) (.none) (.none) (.str (.ofString "relfinder.normal") 187) (none) (.ref 18) (.none)) }) ::
  (nat_lit 91, { cls := .type "code", data := .fields #[.str (.ofString "minus") 288, .str (.ofString "minus") 289, .str (.ofString "/claim/cut.py") 290, .int 43 0, .int 2 0, .int 0 0, .int 0 0, .int 3 0, .ref 88, .bool true, .int 181 0, .ref 89, .none, .none, .none, .ref 90, .int 291 0, .int 43 0, .str (.ofString "/claim/cut.py") 292] }) ::
  (nat_lit 92, { cls := .type "function", data := .func (fnAt (st 13) rfl (.ofString "minus") (.ofString "minus") [] (.none) (.none) (.none) (.str (.ofString "relfinder.sets") 251) (none) (.ref 91) (.none)) }) ::
  (nat_lit 98, { cls := .type "code", data := .fields #[.str (.ofString "is_within") 294, .str (.ofString "is_within") 295, .str (.ofString "/claim/cut.py") 296, .int 46 0, .int 2 0, .int 0 0, .int 0 0, .int 3 0, .ref 93, .bool true, .int 181 0, .ref 94, .none, .ref 95, .ref 96, .ref 97, .int 299 0, .int 46 0, .str (.ofString "/claim/cut.py") 300] }) ::
  (nat_lit 99, { cls := .type "function", data := .func (fnAt (st 14) rfl (.ofString "is_within") (.ofString "is_within") [] (.none) (.none) (.none) (.str (.ofString "relfinder.sets") 251) (none) (.ref 98) (.none)) }) ::
  (nat_lit 156, { cls := .type "code", data := .fields #[.str (.ofString "__init__") 371, .str (.ofString "Evaluator.__init__") 372, .str (.ofString "/claim/cut.py") 373, .int 80 0, .int 3 0, .int 0 0, .int 0 0, .int 3 0, .ref 151, .bool true, .int 181 0, .ref 152, .none, .ref 153, .ref 154, .ref 155, .int 377 0, .int 80 0, .str (.ofString "/claim/cut.py") 378] }) ::
  (nat_lit 157, { cls := .type "function", data := .func (fnAt (mt 25 0) rfl (.ofString "__init__") (.ofString "Evaluator.__init__") [] (.none) (.none) (.none) (.str (.ofString "relfinder.evaluate") 355) (none) (.ref 156) (.none)) }) ::
  (nat_lit 163, { cls := .type "code", data := .fields #[.str (.ofString "opened") 380, .str (.ofString "Evaluator.opened") 381, .str (.ofString "/claim/cut.py") 382, .int 85 0, .int 3 0, .int 0 0, .int 0 0, .int 3 0, .ref 158, .bool true, .int 181 0, .ref 159, .none, .ref 160, .ref 161, .ref 162, .int 395 0, .int 85 0, .str (.ofString "/claim/cut.py") 396] }) ::
  (nat_lit 164, { cls := .type "function", data := .func (fnAt (mt 25 1) rfl (.ofString "opened") (.ofString "Evaluator.opened") [] (.none) (.none) (.none) (.str (.ofString "relfinder.evaluate") 355) (none) (.ref 163) (.none)) }) ::
  (nat_lit 168, { cls := .type "code", data := .fields #[.str (.ofString "set_of") 398, .str (.ofString "Evaluator.set_of") 399, .str (.ofString "/claim/cut.py") 400, .int 101 0, .int 3 0, .int 0 0, .int 0 0, .int 3 0, .ref 165, .bool true, .int 181 0, .ref 166, .none, .none, .none, .ref 167, .int 401 0, .int 101 0, .str (.ofString "/claim/cut.py") 402] }) ::
  (nat_lit 169, { cls := .type "function", data := .func (fnAt (mt 25 2) rfl (.ofString "set_of") (.ofString "Evaluator.set_of") [] (.none) (.none) (.none) (.str (.ofString "relfinder.evaluate") 355) (none) (.ref 168) (.none)) }) ::
  (nat_lit 192, { cls := .type "code", data := .fields #[.str (.ofString "truth") 429, .str (.ofString "Evaluator.truth") 430, .str (.ofString "/claim/cut.py") 431, .int 158 0, .int 3 0, .int 0 0, .int 0 0, .int 3 0, .ref 189, .bool true, .int 181 0, .ref 190, .none, .none, .none, .ref 191, .int 432 0, .int 158 0, .str (.ofString "/claim/cut.py") 433] }) ::
  (nat_lit 193, { cls := .type "function", data := .func (fnAt (mt 25 6) rfl (.ofString "truth") (.ofString "Evaluator.truth") [] (.none) (.none) (.none) (.str (.ofString "relfinder.evaluate") 355) (none) (.ref 192) (.none)) }) ::
  (nat_lit 206, { cls := .type "code", data := .fields #[.str (.ofString "has_many") 445, .str (.ofString "Evaluator.has_many") 446, .str (.ofString "/claim/cut.py") 447, .int 187 0, .int 3 0, .int 0 0, .int 0 0, .int 3 0, .ref 201, .bool true, .int 181 0, .ref 202, .none, .ref 203, .ref 204, .ref 205, .int 451 0, .int 187 0, .str (.ofString "/claim/cut.py") 452] }) ::
  (nat_lit 207, { cls := .type "function", data := .func (fnAt (mt 25 8) rfl (.ofString "has_many") (.ofString "Evaluator.has_many") [] (.none) (.none) (.none) (.str (.ofString "relfinder.evaluate") 355) (none) (.ref 206) (.none)) }) ::
  (nat_lit 209, { cls := .type "dict", data := .dict #[{ hash := PyData.keyHash P (.ofString "__module__"), key := .str (.ofString "__module__") 366, val := .str (.ofString "relfinder.evaluate") 355 }, { hash := PyData.keyHash P (.ofString "__firstlineno__"), key := .str (.ofString "__firstlineno__") 370, val := .int 78 369 }, { hash := PyData.keyHash P (.ofString "__init__"), key := .str (.ofString "__init__") 379, val := .ref 157 }, { hash := PyData.keyHash P (.ofString "opened"), key := .str (.ofString "opened") 397, val := .ref 164 }, { hash := PyData.keyHash P (.ofString "set_of"), key := .str (.ofString "set_of") 403, val := .ref 169 }, { hash := PyData.keyHash P (.ofString "of_one"), key := .str (.ofString "of_one") 412, val := .ref 176 }, { hash := PyData.keyHash P (.ofString "of_two"), key := .str (.ofString "of_two") 422, val := .ref 183 }, { hash := PyData.keyHash P (.ofString "number_of"), key := .str (.ofString "number_of") 428, val := .ref 188 }, { hash := PyData.keyHash P (.ofString "truth"), key := .str (.ofString "truth") 434, val := .ref 193 }, { hash := PyData.keyHash P (.ofString "compared"), key := .str (.ofString "compared") 444, val := .ref 200 }, { hash := PyData.keyHash P (.ofString "has_many"), key := .str (.ofString "has_many") 453, val := .ref 207 }, { hash := PyData.keyHash P (.ofString "__static_attributes__"), key := .str (.ofString "__static_attributes__") 457, val := .ref 208 }, { hash := PyData.keyHash P (.ofString "__dict__"), key := .str (.ofString "__dict__") 459, val := .ref 211 }, { hash := PyData.keyHash P (.ofString "__weakref__"), key := .str (.ofString "__weakref__") 461, val := .ref 212 }, { hash := PyData.keyHash P (.ofString "__doc__"), key := .str (.ofString "__doc__") 462, val := .none }] 4 }) ::
  (nat_lit 210, { cls := .type "type", data := .cls { name := .ofString "Evaluator", bases := [.type "object"], mro := [.ref 210, .type "object"], ns := 209, qualname := .ofString "Evaluator" }, slots := #[none, none, some (.str (.ofString "Evaluator") 359), some (.str (.ofString "Evaluator") 367), some (.builtin "object.__new__"), some (.bool true)] }) ::
  (nat_lit 211, { cls := .type "getset_descriptor", data := .fields #[.str (.ofString "__dict__") 458, .ref 210, .builtin "function.__dict__", .builtin "function.__dict__#set"] }) ::
  (nat_lit 212, { cls := .type "getset_descriptor", data := .fields #[.str (.ofString "__weakref__") 460, .ref 210, .builtin "ExceptionGroup.__weakref__", .none] }) ::
  (nat_lit 220, { cls := .type "code", data := .fields #[.str (.ofString "_law_draw") 467, .str (.ofString "_law_draw") 468, .str (.ofString "/claim/cut.py") 469, .int 194 0, .int 2 0, .int 0 0, .int 0 0, .int 3 0, .ref 215, .bool true, .int 181 0, .ref 216, .none, .ref 217, .ref 218, .ref 219, .int 473 0, .int 194 0, .str (.ofString "/claim/cut.py") 474] }) ::
  (nat_lit 221, { cls := .type "function", data := .func (fnAt (st 27) rfl (.ofString "_law_draw") (.ofString "_law_draw") [] (.none) (.none) (.none) (.str (.ofString "law_rr0087_01") 465) (none) (.ref 220) (.none)) }) ::
  (nat_lit 227, { cls := .type "code", data := .fields #[.str (.ofString "_law_atom") 476, .str (.ofString "_law_atom") 477, .str (.ofString "/claim/cut.py") 478, .int 200 0, .int 2 0, .int 0 0, .int 0 0, .int 3 0, .ref 222, .bool true, .int 181 0, .ref 223, .none, .ref 224, .ref 225, .ref 226, .int 483 0, .int 200 0, .str (.ofString "/claim/cut.py") 484] }) ::
  (nat_lit 228, { cls := .type "function", data := .func (fnAt (st 28) rfl (.ofString "_law_atom") (.ofString "_law_atom") [] (.none) (.none) (.none) (.str (.ofString "law_rr0087_01") 465) (none) (.ref 227) (.none)) }) ::
  (nat_lit 232, { cls := .type "code", data := .fields #[.str (.ofString "_law_drawn") 486, .str (.ofString "_law_drawn") 487, .str (.ofString "/claim/cut.py") 488, .int 205 0, .int 3 0, .int 0 0, .int 0 0, .int 3 0, .ref 229, .bool true, .int 181 0, .ref 230, .none, .none, .none, .ref 231, .int 489 0, .int 205 0, .str (.ofString "/claim/cut.py") 490] }) ::
  (nat_lit 233, { cls := .type "function", data := .func (fnAt (st 29) rfl (.ofString "_law_drawn") (.ofString "_law_drawn") [] (.none) (.none) (.none) (.str (.ofString "law_rr0087_01") 465) (none) (.ref 232) (.none)) }) ::
  (nat_lit 237, { cls := .type "code", data := .fields #[.str (.ofString "_law_rows") 492, .str (.ofString "_law_rows") 493, .str (.ofString "/claim/cut.py") 494, .int 223 0, .int 2 0, .int 0 0, .int 0 0, .int 3 0, .ref 234, .bool true, .int 181 0, .ref 235, .none, .none, .none, .ref 236, .int 495 0, .int 223 0, .str (.ofString "/claim/cut.py") 496] }) ::
  (nat_lit 238, { cls := .type "function", data := .func (fnAt (st 30) rfl (.ofString "_law_rows") (.ofString "_law_rows") [] (.none) (.none) (.none) (.str (.ofString "law_rr0087_01") 465) (none) (.ref 237) (.none)) }) ::
  (nat_lit 244, { cls := .type "code", data := .fields #[.str (.ofString "_law_holds") 498, .str (.ofString "_law_holds") 499, .str (.ofString "/claim/cut.py") 500, .int 228 0, .int 3 0, .int 0 0, .int 0 0, .int 3 0, .ref 239, .bool true, .int 181 0, .ref 240, .none, .ref 241, .ref 242, .ref 243, .int 507 0, .int 228 0, .str (.ofString "/claim/cut.py") 508] }) ::
  (nat_lit 245, { cls := .type "function", data := .func (fnAt (st 31) rfl (.ofString "_law_holds") (.ofString "_law_holds") [] (.none) (.none) (.none) (.str (.ofString "law_rr0087_01") 465) (none) (.ref 244) (.none)) }) ::
  (nat_lit 249, { cls := .type "code", data := .fields #[.str (.ofString "_law_many") 510, .str (.ofString "_law_many") 511, .str (.ofString "/claim/cut.py") 512, .int 251 0, .int 1 0, .int 0 0, .int 0 0, .int 3 0, .ref 246, .bool true, .int 181 0, .ref 247, .none, .none, .none, .ref 248, .int 513 0, .int 251 0, .str (.ofString "/claim/cut.py") 514] }) ::
  (nat_lit 250, { cls := .type "function", data := .func (fnAt (st 32) rfl (.ofString "_law_many") (.ofString "_law_many") [] (.none) (.none) (.none) (.str (.ofString "law_rr0087_01") 465) (none) (.ref 249) (.none)) }) ::
  (nat_lit 254, { cls := .type "code", data := .fields #[.str (.ofString "_law_is_plain") 516, .str (.ofString "_law_is_plain") 517, .str (.ofString "/claim/cut.py") 518, .int 259 0, .int 1 0, .int 0 0, .int 0 0, .int 3 0, .ref 251, .bool true, .int 181 0, .ref 252, .none, .none, .none, .ref 253, .int 519 0, .int 259 0, .str (.ofString "/claim/cut.py") 520] }) ::
  (nat_lit 255, { cls := .type "function", data := .func (fnAt (st 33) rfl (.ofString "_law_is_plain") (.ofString "_law_is_plain") [] (.none) (.none) (.none) (.str (.ofString "law_rr0087_01") 465) (none) (.ref 254) (.none)) }) ::
  (nat_lit 259, { cls := .type "code", data := .fields #[.str (.ofString "_law_contrary") 522, .str (.ofString "_law_contrary") 523, .str (.ofString "/claim/cut.py") 524, .int 267 0, .int 1 0, .int 0 0, .int 0 0, .int 3 0, .ref 256, .bool true, .int 181 0, .ref 257, .none, .none, .none, .ref 258, .int 525 0, .int 267 0, .str (.ofString "/claim/cut.py") 526] }) ::
  (nat_lit 260, { cls := .type "function", data := .func (fnAt (st 34) rfl (.ofString "_law_contrary") (.ofString "_law_contrary") [] (.none) (.none) (.none) (.str (.ofString "law_rr0087_01") 465) (none) (.ref 259) (.none)) }) ::
  (nat_lit 264, { cls := .type "code", data := .fields #[.str (.ofString "law") 528, .str (.ofString "law") 529, .str (.ofString "/claim/cut.py") 530, .int 276 0, .int 1 0, .int 0 0, .int 0 0, .int 3 0, .ref 261, .bool true, .int 181 0, .ref 262, .none, .none, .none, .ref 263, .int 531 0, .int 276 0, .str (.ofString "/claim/cut.py") 532] }) ::
  (nat_lit 265, { cls := .type "function", data := .func (fnAt (st 35) rfl (.ofString "law") (.ofString "law") [] (.none) (.none) (.none) (.str (.ofString "law_rr0087_01") 465) (none) (.ref 264) (.none)) }) :: []
noncomputable def keep : List Nat := [1, 3, 4, 6, 7, 8, 9, 10, 11, 12, 13, 14, 15, 16, 17, 18, 19, 20, 21, 22, 24, 25, 27, 28, 29, 30, 31, 32, 33, 34, 35]
noncomputable def view : Program := { pw with main := { pw.main with body := keep.map st } }
end Mine
end

section
open PySem PySem.W PyProof.Rows
set_option Elab.async false
set_option maxRecDepth 100000
set_option maxHeartbeats 0
namespace Mine
noncomputable abbrev HK : Hook := kHook heap [2, 3, 18, 19, 91, 92, 98, 99, 156, 157, 163, 164, 168, 169, 192, 193, 206, 207, 209, 210, 211, 212, 220, 221, 227, 228, 232, 233, 237, 238, 244, 245, 249, 250, 254, 255, 259, 260, 264, 265] (fun _ => by kernel_rfl)

theorem left_of_boot {p q : Program} {loose : List Str} {Xt : Shared → Bool} {α : Type} {Yf : Shared → α} {Ya : World → α} {N : Nat} {g0 : Bool} (e : opening p = plainProg p.main.scope.names) (hN : Nat.ble 600 N = true) (f : ∀ s, fenceModules? p s = some s)
    (h : ∀ w os, (topFrom treeTable p w N ⟨boot_heap w.params, Array.mk [], boot_drawn, boot_toks, os⟩).map (fun s => (openSeen q loose (importedModules p.main.body) Xt g0 s, Yf s)) = some (openGood q loose, Ya w)) : LeftO p q loose Xt Yf Ya N g0 := fun w => by
  obtain ⟨⟨h0, gs, d, k, os⟩, a, b⟩ := Option.map_eq_some_iff.mp (boot_open e hN f w)
  obtain ⟨rfl, rfl, rfl, rfl⟩ : h0 = boot_heap w.params ∧ gs = Array.mk [] ∧ d = boot_drawn ∧ k = boot_toks := by simpa using b
  unfold openEnds
  rw [a]
  exact h w os
theorem look : (PySem.Challenge.rw_rr0087_01).wellSaid = true := by kernel_rfl
theorem left : LeftO pw view [Str.ofString "set_of_sets"] (fun s => xlAt view [] s && recOk (RowW.records (OpenRow.toRowW (OpenLaw.row PySem.Challenge.rw_rr0087_01))) s) (Hook.obs HK) (Hook.val HK) 3590 := by
  refine left_of_boot ?a ?b ?c ?d
  case a => kernel_rfl
  case b => rfl
  case c => intro s; rfl
  case d => exact fun w os => by kernel_rfl
end Mine
end

section
open PySem PySem.W PyProof.Rows
set_option Elab.async false
set_option maxRecDepth 100000
set_option genInjectivity false
set_option genSizeOfSpec false
namespace Mine

noncomputable abbrev Led := List (Addr × Obj)
theorem mem_head {a : Addr} {o o' : Obj} {l : Led} (h : o = o') : (a, o) ∈ (a, o') :: l := by rw [h]; exact List.mem_cons_self
/-- every entry of a stands in b -/
noncomputable def Sub (a b : Led) : Prop := ∀ p ∈ a, p ∈ b
theorem Sub.refl {a : Led} : Sub a a := fun _ h => h
theorem Sub.mem {a b : Led} {p : Addr × Obj} (h : Sub a b) (m : p ∈ a) : p ∈ b := h _ m
theorem Sub.cons {a l : Led} {e : Addr × Obj} (h : Sub a l) : Sub a (e :: l) := fun _ m => .tail _ (h _ m)
theorem Sub.app {a b l : Led} (h : Sub a l) (k : Sub b l) : Sub (a ++ b) l := fun p m => (List.mem_append.mp m).elim (h p) (k p)
theorem Sub.left {a l k : Led} (h : Sub a l) : Sub a (l ++ k) := fun p m => List.mem_append.mpr (.inl (h p m))
theorem Sub.right {a l k : Led} (h : Sub a k) : Sub a (l ++ k) := fun p m => List.mem_append.mpr (.inr (h p m))
theorem Sub.nil {l : Led} : Sub [] l := fun _ m => nomatch m
theorem all_cons {α : Type} {P : α → Prop} {e : α} {l : List α} (h : P e) (k : ∀ p ∈ l, P p) : ∀ p ∈ e :: l, P p := fun p m => by
  cases m with
  | head => exact h
  | tail _ m => exact k p m
theorem all_app {α : Type} {P : α → Prop} {a b : List α} (h : ∀ p ∈ a, P p) (k : ∀ p ∈ b, P p) : ∀ p ∈ a ++ b, P p := fun p m => (List.mem_append.mp m).elim (h p) (k p)
theorem Sub.one {a l : Led} {e : Addr × Obj} (m : e ∈ l) (h : Sub a l) : Sub (e :: a) l := all_cons m h

/-- one word of two -/
noncomputable abbrev sel (b : Bool) (x y : String) : Str := Str.ofString (bif b then x else y)

/-- b: true or false; and or or; all or exists -/
inductive Form where
  | tf (b : Bool)
  | some (r : Int)
  | inn (k : Nat) (r : Int)
  | not (f : Form)
  | con0 (b : Bool) | con1 (b : Bool) (f : Form) | con2 (b : Bool) (f g : Form)
  | imp (f g : Form) | iff (f g : Form)
  | qu (b : Bool) (k : Nat) (rs : List Int) (f : Form)

noncomputable def Form.size : Form → Nat
  | .tf _ | .some _ | .inn _ _ | .con0 _ => 1
  | .not f | .con1 _ f | .qu _ _ _ f => f.size + 1
  | .con2 _ f g | .imp f g | .iff f g => max f.size g.size + 1

noncomputable def lit (w : Bool) (f : Form) : Form := bif w then f else .not f
/-- normal form of f, wanted or not -/
noncomputable def nf : Form → Bool → Form
  | .tf b, w => .tf (b == w)
  | .some r, w => lit w (.some r)
  | .inn k r, w => lit w (.inn k r)
  | .not f, w => nf f (!w)
  | .con0 b, w => .con0 (b == w)
  | .con1 b f, w => .con1 (b == w) (nf f w)
  | .con2 b f g, w => .con2 (b == w) (nf f w) (nf g w)
  | .imp f g, w => .con2 (!w) (nf f (!w)) (nf g w)
  | .iff f g, w => .con2 true (.con2 false (nf f (!w)) (nf g true)) (.con2 false (nf f w) (nf g false))
  | .qu b k rs f, w => .qu (b == w) k rs (nf f w)
/-- how many atoms, those within an iff twice -/
noncomputable def many : Form → Int
  | .tf _ | .con0 _ => 0
  | .some _ | .inn _ _ => 1
  | .not f | .con1 _ f | .qu _ _ _ f => many f
  | .con2 _ f g | .imp f g => many f + many g
  | .iff f g => 2 * (many f + many g)
/-- the contrary: and for or, all for exists, each atom turned -/
noncomputable def contr : Form → Form
  | .tf b => .tf (!b)
  | .some r => .not (.some r)
  | .inn k r => .not (.inn k r)
  | .not f => f
  | .con0 b => .con0 (!b)
  | .con1 b f => .con1 (!b) (contr f)
  | .con2 b f g => .con2 (!b) (contr f) (contr g)
  | .qu b k rs f => .qu (!b) k rs (contr f)
  | .imp f g => .imp f g
  | .iff f g => .iff f g
noncomputable def isAtom : Form → Bool
  | .some _ | .inn _ _ => true
  | _ => false
/-- not at atoms alone, neither implies nor iff -/
noncomputable def plain : Form → Bool
  | .tf _ | .some _ | .inn _ _ | .con0 _ => true
  | .not f => isAtom f
  | .imp _ _ | .iff _ _ => false
  | .con1 _ f | .qu _ _ _ f => plain f
  | .con2 _ f g => plain f && plain g

noncomputable abbrev tupO (vs : List Value) (n : Nat) : Obj := { cls := .type "tuple", data := .seq vs.toArray n }
noncomputable abbrev cellsO (xs : List Value) (n : Nat) : Obj := { cls := .type "list", data := .seq xs.toArray n }
noncomputable abbrev isRel (r : Int) : Prop := 0 ≤ r ∧ r < 2

noncomputable def xname (k : Nat) : Str := (Str.ofString "x") ++ Str.ofString (toString (k : Int))

/-- ('rel', r) -/
inductive RelIn (news : Led) : Value → Int → Prop where
  | mk {a : Addr} {r : Int} {t1 t2 : Tok} {n : Nat} : (a, tupO [.str (Str.ofString "rel") t1, .int r t2] n) ∈ news → isRel r → RelIn news (.ref a) r
/-- ('var', name) -/
inductive VarIn (news : Led) : Value → Nat → Prop where
  | mk {a : Addr} {k : Nat} {t1 t2 : Tok} {n : Nat} : (a, tupO [.str (Str.ofString "var") t1, .str (xname k) t2] n) ∈ news → VarIn news (.ref a) k
/-- (name, ('rel', r)) -/
inductive DecIn (news : Led) : Value → Nat → Int → Prop where
  | mk {a : Addr} {k : Nat} {r : Int} {v : Value} {t : Tok} {n : Nat} : (a, tupO [.str (xname k) t, v] n) ∈ news → RelIn news v r → DecIn news (.ref a) k r
/-- declarations, the first name the k-th -/
inductive DecsIn (news : Led) : List Value → Nat → List Int → Prop where
  | nil {k : Nat} : DecsIn news [] k []
  | cons {v : Value} {k : Nat} {r : Int} {vs : List Value} {rs : List Int} : DecIn news v k r → DecsIn news vs (k + 1) rs → DecsIn news (v :: vs) k (r :: rs)

inductive FIn (news : Led) : Value → Form → Prop where
  | tf {a t n b} : (a, tupO [.str (sel b "true" "false") t] n) ∈ news → FIn news (.ref a) (.tf b)
  | some {a t n v r} : (a, tupO [.str (Str.ofString "some") t, v] n) ∈ news → RelIn news v r → FIn news (.ref a) (.some r)
  | inn {a t n v u k r} : (a, tupO [.str (Str.ofString "in") t, u, v] n) ∈ news → VarIn news u k → RelIn news v r → FIn news (.ref a) (.inn k r)
  | not {a t n v f} : (a, tupO [.str (Str.ofString "not") t, v] n) ∈ news → FIn news v f → FIn news (.ref a) (.not f)
  | con0 {a c t n n' b} : (a, tupO [.str (sel b "and" "or") t, .ref c] n) ∈ news → (c, tupO [] n') ∈ news → FIn news (.ref a) (.con0 b)
  | con1 {a c t n n' b v f} : (a, tupO [.str (sel b "and" "or") t, .ref c] n) ∈ news → (c, tupO [v] n') ∈ news → FIn news v f → FIn news (.ref a) (.con1 b f)
  | con2 {a c t n n' b v f u g} : (a, tupO [.str (sel b "and" "or") t, .ref c] n) ∈ news → (c, tupO [v, u] n') ∈ news → FIn news v f → FIn news u g → FIn news (.ref a) (.con2 b f g)
  | imp {a t n v f u g} : (a, tupO [.str (Str.ofString "implies") t, v, u] n) ∈ news → FIn news v f → FIn news u g → FIn news (.ref a) (.imp f g)
  | iff {a t n v f u g} : (a, tupO [.str (Str.ofString "iff") t, v, u] n) ∈ news → FIn news v f → FIn news u g → FIn news (.ref a) (.iff f g)
  | qu {a t n c n' b k rs vs v f} : (a, tupO [.str (sel b "all" "exists") t, .ref c, v] n) ∈ news → (c, tupO vs n') ∈ news → DecsIn news vs k rs → FIn news v f → FIn news (.ref a) (.qu b k rs f)

theorem RelIn.mono {news news' : Led} {v r} (h : RelIn news v r) (hs : Sub news news') : RelIn news' v r := by
  cases h with | mk h g => exact .mk (hs _ h) g
theorem RelIn.rel {news : Led} {v r} (h : RelIn news v r) : isRel r := by
  cases h with | mk h g => exact g
theorem VarIn.mono {news news' : Led} {v r} (h : VarIn news v r) (hs : Sub news news') : VarIn news' v r := by
  cases h with | mk h => exact .mk (hs _ h)
theorem DecIn.mono {news news' : Led} {v k r} (h : DecIn news v k r) (hs : Sub news news') : DecIn news' v k r := by
  cases h with | mk h g => exact .mk (hs _ h) (g.mono hs)
theorem DecIn.rel {news : Led} {v k r} (h : DecIn news v k r) : isRel r := by
  cases h with | mk _ g => exact g.rel
theorem DecsIn.rels {news : Led} {vs k rs} (h : DecsIn news vs k rs) : ∀ r ∈ rs, isRel r := by
  induction h with
  | nil => exact fun _ m => nomatch m
  | cons d _ ih => exact all_cons d.rel ih
theorem DecsIn.mono {news news' : Led} {vs k rs} (h : DecsIn news vs k rs) (hs : Sub news news') : DecsIn news' vs k rs := by
  induction h with
  | nil => exact .nil
  | cons a _ ih => exact .cons (a.mono hs) ih
theorem FIn.mono {news news' : Led} {v f} (h : FIn news v f) (hs : Sub news news') : FIn news' v f := by
  induction h with
  | tf h => exact .tf (hs _ h)
  | some h g => exact .some (hs _ h) (g.mono hs)
  | inn h g g' => exact .inn (hs _ h) (g.mono hs) (g'.mono hs)
  | not h _ i => exact .not (hs _ h) i
  | con0 h h' => exact .con0 (hs _ h) (hs _ h')
  | con1 h h' _ i => exact .con1 (hs _ h) (hs _ h') i
  | con2 h h' _ _ i j => exact .con2 (hs _ h) (hs _ h') i j
  | imp h _ _ i j => exact .imp (hs _ h) i j
  | iff h _ _ i j => exact .iff (hs _ h) i j
  | qu h g d _ i => exact .qu (hs _ h) (hs _ g) (d.mono hs) i

/-- a formula's first word -/
@[reducible] noncomputable def opw : Form → Str
  | .tf b => sel b "true" "false"
  | .some _ => Str.ofString "some"
  | .inn _ _ => Str.ofString "in"
  | .not _ => Str.ofString "not"
  | .con0 b | .con1 b _ | .con2 b _ _ => sel b "and" "or"
  | .imp _ _ => Str.ofString "implies"
  | .iff _ _ => Str.ofString "iff"
  | .qu b _ _ _ => sel b "all" "exists"
theorem FIn.head {news : Led} {v f} (h : FIn news v f) : ∃ a t r n, v = .ref a ∧ (a, tupO (.str (opw f) t :: r) n) ∈ news := by
  cases h <;> exact ⟨_, _, _, _, rfl, by assumption⟩

noncomputable abbrev PV : Program := view
noncomputable abbrev LS : List Str := looseW view [Str.ofString "set_of_sets"]
end Mine
end

section
open PySem PySem.W PyProof.Rows PySem.Spec PySem.Calls
set_option Elab.async false
set_option maxRecDepth 100000
namespace Mine
theorem ne_up1 {a b : Nat} (h : b < a) : a + 1 ≠ b := by lia
theorem ne_up2 {a b : Nat} (h : b < a) : a + 2 ≠ b := by lia
theorem ne_up3 {a b : Nat} (h : b < a) : a + 3 ≠ b := by lia
theorem src_at {h₀ : Heap} {ax : Addr} {vs : List Value} {n : Nat} {news : Led} (m : (ax, ({ cls := .type "list", data := .seq vs.toArray n } : Obj)) ∈ news) : LCg.SrcAt h₀ ax vs.toArray news := .inr ⟨_, m, rfl, _, rfl⟩
theorem DecIn.at {news : Led} {a : Addr} {k : Nat} {r x : Int} {v : Value} {t : Tok} {n : Nat} (m : (a, tupO [.str (Str.ofString "x" ++ Str.ofString (toString x)) t, v] n) ∈ news) (hx : x = ((k : Nat) : Int)) (g : RelIn news v r) : DecIn news (.ref a) k r := by
  subst hx; exact .mk m g
theorem ite_dec {p : Prop} [Decidable p] {a b : Prop} (x : p → a) (y : ¬ p → b) : if decide p = true then a else b := by
  by_cases h : p
  · simp only [h, decide_true, if_true]; exact x h
  · simp only [h, decide_false, Bool.false_eq_true, if_false]; exact y h
/-- the ledger l is, beside other entries, what stood (news) and what is newer (tl) -/
structure Ends (news l tl : Led) : Prop where
  sub : ∀ p ∈ news ++ tl, p ∈ l
  ord : ∀ q ∈ news, ∀ p ∈ tl, q.1 < p.1
theorem Ends.base {news : Led} : Ends news news [] := ⟨fun p hp => by simpa using hp, fun _ _ _ h => nomatch h⟩
theorem Ends.app {news tl : Led} (h : ∀ q ∈ news, ∀ p ∈ tl, q.1 < p.1) : Ends news (news ++ tl) tl := ⟨fun _ hp => hp, h⟩
theorem Ends.cons {news l tl : Led} {a : Addr} {o : Obj} (h : AllLt a news) (e : Ends news l tl) : Ends news ((a, o) :: l) ((a, o) :: tl) := by
  refine ⟨fun p hp => ?_, fun q hq p hp => ?_⟩
  · rcases List.mem_append.mp hp with hp | hp
    · exact .tail _ (e.sub p (List.mem_append.mpr (.inl hp)))
    · rcases List.mem_cons.mp hp with rfl | hp
      · exact .head _
      · exact .tail _ (e.sub p (List.mem_append.mpr (.inr hp)))
  · rcases List.mem_cons.mp hp with rfl | hp
    · exact ktn_ltOf h q hq
    · exact e.ord q hq p hp
theorem Ends.appR {news l tl tl' : Led} (e : Ends news l tl) (h : ∀ q ∈ news, ∀ p ∈ tl', q.1 < p.1) : Ends news (l ++ tl') (tl ++ tl') := by
  refine ⟨fun p hp => ?_, fun q hq p hp => ?_⟩
  · rw [← List.append_assoc] at hp
    rcases List.mem_append.mp hp with hp | hp
    · exact List.mem_append.mpr (.inl (e.sub p hp))
    · exact List.mem_append.mpr (.inr hp)
  · rcases List.mem_append.mp hp with hp | hp
    · exact e.ord q hq p hp
    · exact h q hq p hp
theorem Ends.skip {news l tl : Led} {x : Addr × Obj} (e : Ends news l tl) : Ends news (x :: l) tl := ⟨fun p hp => .tail _ (e.sub p hp), e.ord⟩
theorem Ends.news {h₀ h : Heap} {L : Addr} {news l tl : Led} (e : Ends news l tl) (N : News h₀ L h l) : News h₀ L h (news ++ tl) := fun p hp => N p (e.sub p hp)
theorem ordA {a b c : Led} (h : ∀ q ∈ a, ∀ p ∈ b, q.1 < p.1) (h' : ∀ q ∈ a, ∀ p ∈ c, q.1 < p.1) : ∀ q ∈ a, ∀ p ∈ b ++ c, q.1 < p.1 := fun q hq p hp =>
  (List.mem_append.mp hp).elim (h q hq p) (h' q hq p)
theorem ordL {a b c : Led} (h : ∀ q ∈ a ++ b, ∀ p ∈ c, q.1 < p.1) : ∀ q ∈ a, ∀ p ∈ c, q.1 < p.1 := fun q hq p hp => h q (List.mem_append.mpr (.inl hq)) p hp
theorem ordR {a b c : Led} (h : ∀ q ∈ a ++ b, ∀ p ∈ c, q.1 < p.1) : ∀ q ∈ b, ∀ p ∈ c, q.1 < p.1 := fun q hq p hp => h q (List.mem_append.mpr (.inr hq)) p hp
theorem ordC {e : Addr × Obj} {a c : Led} (h : ∀ q ∈ e :: a, ∀ p ∈ c, q.1 < p.1) : ∀ q ∈ a, ∀ p ∈ c, q.1 < p.1 := fun q hq p hp => h q (.tail _ hq) p hp
theorem ordH {e : Addr × Obj} {a c : Led} (h : ∀ q ∈ e :: a, ∀ p ∈ c, q.1 < p.1) : ∀ p ∈ c, e.1 < p.1 := fun p hp => h e (.head _) p hp
theorem allLt_app {d : Addr} : ∀ {a b : Led}, AllLt d (a ++ b) → AllLt d a
  | [], _, _ => trivial
  | _ :: _, _, h => ⟨h.1, allLt_app h.2⟩
theorem allLt_lt {d e : Addr} (h : d ≤ e) : ∀ {a : Led}, AllLt d a → AllLt e a
  | [], _ => trivial
  | _ :: _, x => ⟨Nat.lt_of_lt_of_le x.1 h, allLt_lt h x.2⟩
theorem off3_app {I C D : Addr} : ∀ {a b : Led}, LCg.Off3 I C D a → LCg.Off3 I C D b → LCg.Off3 I C D (a ++ b)
  | [], _, _, h => h
  | _ :: _, _, x, h => ⟨x.1, off3_app x.2 h⟩
theorem off3_lt {I C D : Addr} {tl : Led} (i : ∀ p ∈ tl, I < p.1) (c : ∀ p ∈ tl, C < p.1) (d : ∀ p ∈ tl, D < p.1) : LCg.Off3 I C D tl :=
  LCg.Off3.of fun p hp => ⟨Nat.ne_of_gt (i p hp), Nat.ne_of_gt (c p hp), Nat.ne_of_gt (d p hp)⟩
theorem off3_tail {eI eC eD : Addr × Obj} {r tl : Led} (h : ∀ q ∈ eI :: eC :: eD :: r, ∀ p ∈ tl, q.1 < p.1) : LCg.Off3 eI.1 eC.1 eD.1 tl :=
  off3_lt (ordH h) (ordH (ordC h)) (ordH (ordC (ordC h)))

theorem off1_of {D : Addr} : ∀ {l : Led}, (∀ p ∈ l, @Ne Nat p.1 D) → LCg.Off1 D l
  | [], _ => trivial
  | _ :: _, h => ⟨h _ List.mem_cons_self, off1_of fun p hp => h p (List.mem_cons_of_mem _ hp)⟩
theorem off1_mem {D : Addr} : ∀ {l : Led}, LCg.Off1 D l → ∀ p ∈ l, @Ne Nat p.1 D
  | [], _, _, h => nomatch h
  | _ :: _, x, p, h => by
    rcases List.mem_cons.mp h with rfl | h
    · exact x.1
    · exact off1_mem x.2 p h
theorem off1_app {D : Addr} {a b : Led} (h : LCg.Off1 D a) (k : LCg.Off1 D b) : LCg.Off1 D (a ++ b) := off1_of fun p hp => (List.mem_append.mp hp).elim (off1_mem h p) (off1_mem k p)
theorem off1_lt {D : Addr} {tl : Led} (h : ∀ p ∈ tl, D < p.1) : LCg.Off1 D tl := off1_of fun p hp => Nat.ne_of_gt (h p hp)
/-- what is left of the ledger l when a comprehension's own three entries are taken out -/
structure Cut (I C D : Addr) (l l' : Led) : Prop where
  sub : ∀ p ∈ l', p ∈ l
  off : LCg.Off3 I C D l'
theorem Cut.base {I C D : Addr} {l : Led} (h : LCg.Off3 I C D l) : Cut I C D l l := ⟨fun _ h => h, h⟩
theorem Cut.cons {I C D a : Addr} {o : Obj} {l l' : Led} (i : @Ne Nat a I) (c : @Ne Nat a C) (d : @Ne Nat a D) (e : Cut I C D l l') : Cut I C D ((a, o) :: l) ((a, o) :: l') :=
  ⟨fun p hp => by
    rcases List.mem_cons.mp hp with rfl | hp
    · exact .head _
    · exact .tail _ (e.sub p hp), ⟨⟨i, c, d⟩, e.off⟩⟩
theorem Cut.skipI {I C D : Addr} {o : Obj} {l l' : Led} (e : Cut I C D l l') : Cut I C D ((I, o) :: l) l' := ⟨fun p hp => .tail _ (e.sub p hp), e.off⟩
theorem Cut.skipC {I C D : Addr} {o : Obj} {l l' : Led} (e : Cut I C D l l') : Cut I C D ((C, o) :: l) l' := ⟨fun p hp => .tail _ (e.sub p hp), e.off⟩
theorem Cut.skipD {I C D : Addr} {o : Obj} {l l' : Led} (e : Cut I C D l l') : Cut I C D ((D, o) :: l) l' := ⟨fun p hp => .tail _ (e.sub p hp), e.off⟩
theorem Cut.skip {I C D : Addr} {x : Addr × Obj} {l l' : Led} (e : Cut I C D l l') : Cut I C D (x :: l) l' := ⟨fun p hp => .tail _ (e.sub p hp), e.off⟩

theorem comp_end {h₀ : Heap} {L I C D : Addr} {m : Str → Option Value} {s₁ : Shared} {oI oC oD : Obj} {S : Led → Prop} {rest : Value → Led → Prop} {y : Value} {h' : Heap} {tk : Nat} {all news' : Led}
    (F : Fr h₀ L h' m) (N : News h₀ L h' all) (i : (I, oI) ∈ all) (c : (C, oC) ∈ all) (d : (D, oD) ∈ all) (k : Cut I C D all news') (hS : S news') (r : rest y news') :
    LCg.CompEnd h₀ L m s₁ I oI C oC D oD S rest y { s₁ with heap := h', toks := tk } :=
  LCg.CompEnd.intro F N news' (fun p hp => by
    rcases List.mem_cons.mp hp with rfl | hp
    · exact i
    · rcases List.mem_cons.mp hp with rfl | hp
      · exact c
      · rcases List.mem_cons.mp hp with rfl | hp
        · exact d
        · exact k.sub _ hp) k.off hS r

theorem cells1 {P : Prop} {g h : Heap} {L : Addr} {news cells : Led} {cm : Str → Option Value} {n₁ : Str} {c₁ : Addr} (Y : CellsAre cm [(n₁, c₁)] cells) (N : News g L h (cells ++ news))
    (k : ∀ o₁, News g L h ((c₁, o₁) :: news) → o₁.data = .cell (cm n₁) → P) : P := by
  obtain ⟨o₁, rfl, d₁⟩ := Y.one
  exact k o₁ N d₁
theorem cells2 {P : Prop} {g h : Heap} {L : Addr} {news cells : Led} {cm : Str → Option Value} {n₁ n₂ : Str} {c₁ c₂ : Addr} (Y : CellsAre cm [(n₁, c₁), (n₂, c₂)] cells) (N : News g L h (cells ++ news))
    (k : ∀ o₁ o₂, News g L h ((c₁, o₁) :: (c₂, o₂) :: news) → o₁.data = .cell (cm n₁) → o₂.data = .cell (cm n₂) → P) : P := by
  obtain ⟨o₁, o₂, rfl, d₁, d₂⟩ := Y.two
  exact k o₁ o₂ N d₁ d₂
theorem cells3 {P : Prop} {g h : Heap} {L : Addr} {news cells : Led} {cm : Str → Option Value} {n₁ n₂ n₃ : Str} {c₁ c₂ c₃ : Addr} (Y : CellsAre cm [(n₁, c₁), (n₂, c₂), (n₃, c₃)] cells) (N : News g L h (cells ++ news))
    (k : ∀ o₁ o₂ o₃, News g L h ((c₁, o₁) :: (c₂, o₂) :: (c₃, o₃) :: news) → o₁.data = .cell (cm n₁) → o₂.data = .cell (cm n₂) → o₃.data = .cell (cm n₃) → P) : P := by
  obtain ⟨o₁, o₂, o₃, rfl, d₁, d₂, d₃⟩ := Y.three
  exact k o₁ o₂ o₃ N d₁ d₂ d₃
theorem cells4 {P : Prop} {g h : Heap} {L : Addr} {news cells : Led} {cm : Str → Option Value} {n₁ n₂ n₃ n₄ : Str} {c₁ c₂ c₃ c₄ : Addr} (Y : CellsAre cm [(n₁, c₁), (n₂, c₂), (n₃, c₃), (n₄, c₄)] cells) (N : News g L h (cells ++ news))
    (k : ∀ o₁ o₂ o₃ o₄, News g L h ((c₁, o₁) :: (c₂, o₂) :: (c₃, o₃) :: (c₄, o₄) :: news) → o₁.data = .cell (cm n₁) → o₂.data = .cell (cm n₂) → o₃.data = .cell (cm n₃) → o₄.data = .cell (cm n₄) → P) : P := by
  obtain ⟨o₁, o₂, o₃, o₄, rfl, d₁, d₂, d₃, d₄⟩ := Y.four
  exact k o₁ o₂ o₃ o₄ N d₁ d₂ d₃ d₄
/-- a pure def's contract: f at the address f, its datum d -/
noncomputable def Pure {D : Type} (w : World) (mean : ExcName → Option Value) (mg mb : Str → Option Value) (f : Addr) (Rel : Led → List Value → D → Prop) (size : D → Nat) (Out : Led → Value → D → Prop) (d : D) : Prop :=
  ∀ (dp un : Nat) (gd : Option (List Code)) (cn : Str) (cs : Scope) (a : Addr) (ccd : Value) (cl : List (Str × Addr)) (outer : List Env) (A₀ : Around) (base h₀ : Heap) (L : Addr) (m : Str → Option Value) (news nr : Led) (s : Shared) (vs : List Value)
    (Q E : Value → Shared → Prop),
    Below A₀ base outer h₀ → Fr h₀ L s.heap m → (heap w.params).In h₀ → News h₀ L s.heap news → Top PV LS mean mg mb h₀ → cs.kind = .function → Sub nr news → Rel nr vs d → dp + size d < recursionLimit → un + 8 * size d < cLine →
    (∀ r tl h' tk', Fr h₀ L h' m → News h₀ L h' (news ++ tl) → (∀ q ∈ news, ∀ p ∈ tl, q.1 < p.1) → Out (nr ++ tl) r d → Q r { s with heap := h', toks := tk' }) →
    wpAny (model PySem.Challenge.rw_rr0087_01.row.prog w) (ktrTop dp un gd cn cs L a ccd cl outer) (call (.ref f) vs) Q E s

section
variable {D : Type} {w : World} {mean : ExcName → Option Value} {mg mb : Str → Option Value} {f : Addr} {Rel : Led → List Value → D → Prop} {size : D → Nat} {Out : Led → Value → D → Prop}
theorem room1 {d d' : D} {dp : Nat} (h : dp + size d < recursionLimit) (lt : size d' < size d) : dp + 1 + size d' < recursionLimit := by lia
theorem units1 {d d' : D} {un : Nat} (h : un + 8 * size d < cLine) (lt : size d' < size d) : un + 3 + 8 * size d' < cLine := by lia
theorem pure_of (step : ∀ d, (∀ d', size d' < size d → Pure w mean mg mb f Rel size Out d') → Pure w mean mg mb f Rel size Out d) : ∀ d, Pure w mean mg mb f Rel size Out d := by
  have all : ∀ n, ∀ d, size d < n → Pure w mean mg mb f Rel size Out d := by
    intro n
    induction n with
    | zero => intro d h; exact absurd h (Nat.not_lt_zero _)
    | succ n ih => exact fun d h => step d fun d' h' => ih d' (Nat.lt_of_lt_of_le h' (Nat.le_of_lt_succ h))
  exact fun d => all _ d (Nat.lt_succ_self _)
theorem use_P {d : D} {dp un : Nat} {gd : Option (List Code)} {cn : Str} {cs : Scope} {a : Addr} {ccd : Value} {cl : List (Str × Addr)} {outer : List Env} {A₀ : Around} {base h₀ : Heap} {L : Addr} {m : Str → Option Value} {news nr : Led} {s : Shared} {vs : List Value}
    {Q E : Value → Shared → Prop} (B : Below A₀ base outer h₀) (F : Fr h₀ L s.heap m) (X : (heap w.params).In h₀) (N : News h₀ L s.heap news) (T : Top PV LS mean mg mb h₀) (hk : cs.kind = .function) (R : Rel nr vs d) (C : Pure w mean mg mb f Rel size Out d) (hs : Sub nr news)
    (hd : dp + size d < recursionLimit) (hu : un + 8 * size d < cLine)
    (ret : ∀ r tl h' tk', Fr h₀ L h' m → News h₀ L h' (news ++ tl) → (∀ q ∈ news, ∀ p ∈ tl, q.1 < p.1) → Out (nr ++ tl) r d → Q r { s with heap := h', toks := tk' }) :
    wpAny (model PySem.Challenge.rw_rr0087_01.row.prog w) (ktrTop dp un gd cn cs L a ccd cl outer) (call (.ref f) vs) Q E s := C _ _ _ _ _ _ _ _ _ _ _ _ _ _ _ _ _ _ _ _ B F X N T hk hs R hd hu ret
/-- the same, at the def's own end -/
theorem leave_P {d : D} {h₀ g : Heap} {L L' : Addr} {m m' : Str → Option Value} {news nr l tl : Led} {s : Shared} {R : Result → Shared → Prop} {r : Value} {h' : Heap} {tk' : Nat}
    (ret : ∀ r tl h' tk', Fr h₀ L h' m → News h₀ L h' (news ++ tl) → (∀ q ∈ news, ∀ p ∈ tl, q.1 < p.1) → Out (nr ++ tl) r d → R (.ok (.ret r)) { s with heap := h', toks := tk' })
    (F : Fr g L' h' m') (N : News g L' h' l) (e : Ends news l tl) (o : Out (nr ++ tl) r d) : LeaveK h₀ L m g R r { s with heap := h', toks := tk' } :=
  leaveK_ F N fun F N => ret _ _ _ _ F (e.news N) e.ord o
/-- the end of a pure def's walk -/
theorem ret_P {d : D} {h₀ : Heap} {L : Addr} {m : Str → Option Value} {news nr l tl : Led} {s : Shared} {Q : Value → Shared → Prop} {r : Value} {h' : Heap} {tk' : Nat}
    (ret : ∀ r tl h' tk', Fr h₀ L h' m → News h₀ L h' (news ++ tl) → (∀ q ∈ news, ∀ p ∈ tl, q.1 < p.1) → Out (nr ++ tl) r d → Q r { s with heap := h', toks := tk' })
    (F : Fr h₀ L h' m) (N : News h₀ L h' l) (e : Ends news l tl) (o : Out (nr ++ tl) r d) : Q r { s with heap := h', toks := tk' } := ret _ _ _ _ F (e.news N) e.ord o
end

section
variable {prog : Program} {w : World} {A : Around} {E : Value → Shared → Prop} {s : Shared} {h₀ : Heap} {L : Addr} {m : Str → Option Value} {env : Env}
/-- a comprehension's source: a tuple of the ledger -/
noncomputable def TupSrc (prog : Program) (w : World) (A : Around) (h₀ : Heap) (L : Addr) (m : Str → Option Value) (env : Env) (elt : Expr) (x : Str) (scope : Scope) (cl : List (Str × Addr)) (Fin : Shared → List Value → Led → Prop) (xv : Value) (s₁ : Shared) : Prop :=
  ∃ ax its n news, xv = .ref ax ∧ A.handled = none ∧ Fr h₀ L s₁.heap m ∧ News h₀ L s₁.heap news ∧ (ax, tupO its n) ∈ news ∧ its.length ≤ sizeLine ∧
    ∀ s₂ : Shared, (∃ h, s₂ = { s₁ with heap := h }) → LCg.CompRest prog w A h₀ L m env elt x scope cl s₂ (fun nw => (ax, tupO its n) ∈ nw) (fun i v => its.toArray[i]? = some v) (Fin s₂) its.toArray.size 0 [] news
theorem TupSrc.ledger {elt : Expr} {x : Str} {scope : Scope} {cl : List (Str × Addr)} {Fin : Shared → List Value → Led → Prop} {ax : Addr} {its : List Value} {n : Nat} {news : Led} {s₁ : Shared}
    (hh : A.handled = none) (F : Fr h₀ L s₁.heap m) (N : News h₀ L s₁.heap news) (hm : (ax, tupO its n) ∈ news) (hsz : its.length ≤ sizeLine)
    (h : ∀ g, LCg.CompRest prog w A h₀ L m env elt x scope cl { s₁ with heap := g } (fun nw => (ax, tupO its n) ∈ nw) (fun i v => its.toArray[i]? = some v) (Fin { s₁ with heap := g }) its.toArray.size 0 [] news) :
    TupSrc prog w A h₀ L m env elt x scope cl Fin (.ref ax) s₁ := ⟨ax, its, n, news, rfl, hh, F, N, hm, hsz, fun _ ⟨g, e⟩ => e ▸ h g⟩
theorem tup_is {ax : Addr} {its : List Value} {n : Nat} {news : Led} {h : Heap} (N : News h₀ L h news) (hm : (ax, tupO its n) ∈ news) : h.IsTuple ax its.toArray := ⟨_, (N _ hm).1, rfl, _, rfl⟩
theorem lc_tuple {elt iter : Expr} {x : Str} {px : Pos} {scope : Scope} {cl : List (Str × Addr)} {pos : Pos} {Q : Value → Shared → Prop} (F₀ : Fr h₀ L s.heap m)
    (hclos : closureFor scope env = pure cl) (hcell : ∀ y ∈ scope.names, y.2 ≠ .cell) (hkind : scope.kind = .function)
    (hnames : ∀ y ∈ scope.names, y.2 = .local → scope.names.lookup y.1 = some .local) (hx : scope.names.lookup x = some .local)
    (h : wpAny (model prog w) A (eval iter env) (TupSrc prog w A h₀ L m env elt x scope cl (fun s₂ => LCg.FinE h₀ L m s₂ Q)) E s)
    (hs : ∀ x, foldedSetIterable iter env x = pure x := by intro _; rfl) :
    wpAny (model prog w) A (eval (.ListComp elt [⟨.Name x px, iter, [], 0⟩] scope pos) env) Q E s := by
  rw [eval_ListComp]
  refine wpAny_comprehension_free (use := none) rfl hs hclos hkind hnames (wpAny_mono h (fun xv s₁ h₁ => ?_) fun _ _ e => e)
  obtain ⟨ax, its, n, news, rfl, hh, F, N, hm, hsz, R⟩ := h₁
  have hl := tup_is N hm
  have hlt : ax < s₁.heap.objs.size := Heap.lt_size (N _ hm).1
  refine wpAny_pyIter_tuple hl ?_
  have up : ∀ b o, s₁.heap.get? b = some o → (s₁.heap.push { cls := .type "tuple_iterator", data := .fields #[.ref ax, .int 0 0] }).get? b = some o := fun b o e => Heap.get?_push_of_some _ e
  have hsz' : its.toArray.size ≤ sizeLine := by rw [List.size_toArray]; exact hsz
  refine LCg.block_U (Walks.tuple hh s₁.heap.objs.size ax (Nat.ne_of_lt hlt) its.toArray) hsz' (fun i h st => by obtain ⟨o, e, _⟩ := st.1; exact ⟨o, e⟩)
    (S := fun nw => (ax, tupO its n) ∈ nw)
    (fun i h h' o nw st e e' k N' S => ⟨by obtain ⟨o', q, r⟩ := st.1; rw [e] at q; cases q; exact ⟨o, e', r⟩, tup_is N' S⟩) hcell hkind hx
    ⟨⟨_, Heap.get?_push_size _ rfl, rfl, rfl⟩, ⟨_, up _ _ (N _ hm).1, rfl, _, rfl⟩⟩ (fun b hb => ?_)
    (F.keeps up) (N.grown up) (Nat.ne_of_lt F.ns.lt) (next_is_new F) (fun p hp => Nat.ne_of_lt (Heap.lt_size (N p hp).1)) hm (R _ ⟨_, rfl⟩) ?_
  · show b < (s₁.heap.push _).objs.size
    rw [Heap.size_push]
    rcases List.mem_cons.mp hb with rfl | hb
    · exact Nat.lt_succ_self _
    · rw [List.mem_singleton.mp hb]; exact Nat.lt_succ_of_lt hlt
  · intro D C h tk m' ys news' F' N' o1 hn hC₀ hD₀ hCL hDL hCD offC fin
    refine ⟨m', hn, fun h'' hs'' => fin D h'' tk (F'.change hs'' hCL hC₀) (fun p hp => ?_) o1⟩
    refine ⟨hs''.extBut _ _ ?_ (N' p hp).1, (N' p hp).2⟩
    rcases List.mem_cons.mp hp with rfl | hp
    · exact Ne.symm hCD
    · exact offC p hp
end
end Mine
end

section
open PySem PySem.W PyProof.Rows PySem.Spec PySem.Calls
set_option Elab.async false
set_option maxRecDepth 100000
namespace Mine
section
variable {prog : Program} {w : World} {A : Around} {h₀ : Heap} {L : Addr} {m : Str → Option Value} {news : Led} {env : Env}
variable {hp : Heap} {gs : Array GenState} {dr : Drawn} {k0 : Nat} {os : OsState}
/-- e has the value v; the heap stays -/
noncomputable def Val (prog : Program) (w : World) (A : Around) (h₀ : Heap) (L : Addr) (m : Str → Option Value) (news : Led) (env : Env) (e : PySem.Expr) (v : Value) : Prop :=
  ∀ (Q E : Value → Shared → Prop) (s : Shared), Fr h₀ L s.heap m → News h₀ L s.heap news → (∀ tk, Q v { s with toks := tk }) → wpAny (model prog w) A (eval e env) Q E s
/-- the same; what is told stays -/
noncomputable def ValH (prog : Program) (w : World) (A : Around) (h₀ : Heap) (L : Addr) (m : Str → Option Value) (news : Led) (env : Env) (e : PySem.Expr) (v : Value) : Prop :=
  ∀ (Q E : Value → Shared → Prop) (s : Shared), Fr h₀ L s.heap m → News h₀ L s.heap news → (∀ h' tk, Fr h₀ L h' m → News h₀ L h' news → Q v { s with heap := h', toks := tk }) → wpAny (model prog w) A (eval e env) Q E s
/-- the test e comes out as b -/
noncomputable def Tst (prog : Program) (w : World) (A : Around) (h₀ : Heap) (L : Addr) (m : Str → Option Value) (news : Led) (env : Env) (e : PySem.Expr) (b : Bool) : Prop :=
  ∀ (Q : Bool → Shared → Prop) (E : Value → Shared → Prop) (s : Shared), Fr h₀ L s.heap m → News h₀ L s.heap news → (∀ h' tk, Fr h₀ L h' m → News h₀ L h' news → Q b { s with heap := h', toks := tk }) → wpAny (model prog w) A (isTrue e env (eval e env)) Q E s
theorem val_local {cn : Str} {cs : Scope} {a : Addr} {ccd : Value} {cl : List (Str × Addr)} {x : Str} {pos : Pos} {v : Value} (he : env = envX cn cs L a ccd cl) (hv : m x = some v) (hk : cs.kind = .function) (hx : (envX cn cs L a ccd cl).kindOf x = some .local) (hd : (x == ("__debug__" : Str)) = false) :
    Val prog w A h₀ L m news env (.Name x pos) v := fun _ _ s F N k => by subst he; exact nameX_L F hv (k s.toks) hk hx hd
theorem val_cell {cn : Str} {cs : Scope} {a c : Addr} {o : Obj} {ccd : Value} {cl : List (Str × Addr)} {x : Str} {pos : Pos} {v : Value} (he : env = envX cn cs L a ccd cl) (hc : cl.lookup x = some c) (hm : (c, o) ∈ news) (ho : o.data = .cell (some v)) (hk : cs.kind = .function) (hx : (envX cn cs L a ccd cl).kindOf x = some .cell) (hd : (x == ("__debug__" : Str)) = false) :
    Val prog w A h₀ L m news env (.Name x pos) v := fun _ _ s F N k => by subst he; exact nameX_C N hc hm ho (k s.toks) hk hx hd
theorem val_item {e : PySem.Expr} {a : Addr} {vs : List Value} {n : Nat} {i : Int} {k : Nat} {p pos : Pos} {j : Nat} {v : Value} (he : Val prog w A h₀ L m news env e (.ref a)) (hm : (a, tupO vs n) ∈ news) (hr : (-100 ≤ i ∧ i ≤ 100) ∧ seqIndex? i vs.length = some j) (hj : vs[j]? = some v) :
    Val prog w A h₀ L m news env (.Subscript e (.Constant (.int i) k p) pos) v := fun _ _ s F N q =>
  Subscript_ (he _ _ s F N fun _ => wpAny_Constant_int (item_tupleT (News.isTup N hm) (by have := hr.1.1; lia) (by have := hr.1.2; lia) hr.2 hj (q _)))
theorem val_head {e : PySem.Expr} {a : Addr} {vs : List Value} {n : Nat} {k : Nat} {p pos : Pos} {u v : Value} (he : Val prog w A h₀ L m news env e u) (hu : u = .ref a) (hm : (a, tupO (v :: vs) n) ∈ news) :
    Val prog w A h₀ L m news env (.Subscript e (.Constant (.int 0) k p) pos) v := val_item (i := 0) (j := 0) (hu ▸ he) hm ⟨by decide, by simp [seqIndex?]⟩ rfl
theorem val_eq {e : PySem.Expr} {op l : Str} {t : Tok} {k : Nat} {p pos : Pos} {b : Bool} (he : Val prog w A h₀ L m news env e (.str op t)) (hb : (op == l) = b) :
    Val prog w A h₀ L m news env (.Compare e [.Eq] [.Constant (.str l) k p] pos) (.bool b) := fun _ _ s F N q =>
  wpAny_Compare1 (he _ _ s F N fun _ => Constant_str (eq_str (by rw [hb]; exact q _))) (by rfl)
theorem tst_eq {e : PySem.Expr} {op l : Str} {t : Tok} {k : Nat} {p pos : Pos} {b : Bool} (he : Val prog w A h₀ L m news env e (.str op t)) (hb : (op == l) = b) :
    Tst prog w A h₀ L m news env (.Compare e [.Eq] [.Constant (.str l) k p] pos) b := fun _ _ s F N q =>
  wpAny_isTrue_Compare1 (he _ _ s F N fun _ => Constant_str (eq_str (wpAny_truthy_bool (by rw [hb]; exact q _ _ F N)))) (by rfl)
theorem tst_eqb {e e' : PySem.Expr} {c d : Bool} {pos : Pos} (he : Val prog w A h₀ L m news env e (.bool c)) (he' : Val prog w A h₀ L m news env e' (.bool d)) (hr : behindInMarks .Eq e' = false) :
    Tst prog w A h₀ L m news env (.Compare e [.Eq] [e'] pos) (c == d) := fun _ _ s F N q =>
  wpAny_isTrue_Compare1 (he _ _ s F N fun _ => he' _ _ _ F N fun _ => eq_bool (wpAny_truthy_bool (q _ _ F N))) hr
theorem tst_val {e : PySem.Expr} {b : Bool} (he : Val prog w A h₀ L m news env e (.bool b)) (hi : ∀ x, isTrue e env x = (do let v ← x; standAt e.pos; holding [v] (truthy v))) : Tst prog w A h₀ L m news env e b := fun _ _ s F N q =>
  isTrue_plain (he _ _ s F N fun _ => wpAny_truthy_bool (q _ _ F N)) (hi _)
theorem tst_or_yes {a b : PySem.Expr} {pos : Pos} (ha : Tst prog w A h₀ L m news env a true) : Tst prog w A h₀ L m news env (.BoolOp .Or [a, b] pos) true := fun _ _ s F N q => isTrue_or (ha _ _ s F N q)
theorem tst_or_no {a b : PySem.Expr} {c : Bool} {pos : Pos} (ha : Tst prog w A h₀ L m news env a false) (hb : Tst prog w A h₀ L m news env b c) : Tst prog w A h₀ L m news env (.BoolOp .Or [a, b] pos) c := fun _ _ s F N q =>
  isTrue_or (ha _ _ s F N fun _ _ F1 N1 => isTrue_or (hb _ _ _ F1 N1 fun h' tk F' N' => by
    cases c
    · exact isTrue_or_nil (q h' tk F' N')
    · exact q h' tk F' N'))
theorem tst_ne {e : PySem.Expr} {op l : Str} {t : Tok} {k : Nat} {p pos : Pos} {b : Bool} (he : Val prog w A h₀ L m news env e (.str op t)) (hb : (op == l) = b) :
    Tst prog w A h₀ L m news env (.Compare e [.NotEq] [.Constant (.str l) k p] pos) (!b) := fun _ _ s F N q =>
  wpAny_isTrue_Compare1 (he _ _ s F N fun _ => Constant_str (ne_str (wpAny_truthy_bool (by
    have : (op != l) = !b := by unfold bne; rw [hb]
    rw [this]; exact q _ _ F N)))) (by rfl)
theorem tst_ne_t {e : PySem.Expr} {op l : Str} {t : Tok} {k : Nat} {p pos : Pos} (he : Val prog w A h₀ L m news env e (.str op t)) (hb : (op == l) = false) : Tst prog w A h₀ L m news env (.Compare e [.NotEq] [.Constant (.str l) k p] pos) true := tst_ne he hb
theorem tst_ne_f {e : PySem.Expr} {op l : Str} {t : Tok} {k : Nat} {p pos : Pos} (he : Val prog w A h₀ L m news env e (.str op t)) (hb : (op == l) = true) : Tst prog w A h₀ L m news env (.Compare e [.NotEq] [.Constant (.str l) k p] pos) false := tst_ne he hb
/-- written texts -/
noncomputable def strLits : List PySem.Expr → Option (List Str)
  | [] => some []
  | .Constant (.str x) _ _ :: r => (strLits r).map (x :: ·)
  | _ => none
theorem lits_spliced {s : Shared} {E : Value → Shared → Prop} {pos : Pos} : ∀ {elts : List PySem.Expr} {ss : List Str} {Q : List Value → Shared → Prop} {tk : Nat}, strLits elts = some ss → (∀ vs tk, StrsAre vs ss → Q vs { s with toks := tk }) →
    wpAny (model prog w) A (spliced (backTo pos (starEach elts env))) Q E { s with toks := tk } := by
  intro elts
  induction elts with
  | nil => intro ss Q tk h k; obtain rfl : [] = ss := Option.some.inj h; exact args_nil (k _ _ .nil)
  | cons e r ih =>
    intro ss Q tk h k
    unfold strLits at h
    split at h
    · rename_i hq; cases hq
    · rename_i x c p r' hq
      cases hq
      obtain ⟨ys, hy, rfl⟩ := Option.map_eq_some_iff.mp h
      exact args_cons (Constant_str (ih hy fun vs tk hs => k _ _ (.cons _ _ hs)))
    · cases h
theorem tst_in {e : PySem.Expr} {op : Str} {ss : List Str} {t : Tok} {elts : List PySem.Expr} {k : Nat} {p pos : Pos} {b : Bool} (he : Val prog w A h₀ L m news env e (.str op t)) (hl : strLits elts = some ss) (hn : ss.length ≤ 20) (hb : ss.any (· == op) = b) :
    Tst prog w A h₀ L m news env (.Compare e [.In] [.Tuple elts k p] pos) b := fun Q E s F N q =>
  wpAny_isTrue_Compare1 (he _ _ s F N fun tk1 => Tuple_ (lits_spliced (s := { s with toks := tk1 }) hl fun vs tk hs =>
    newTuple_N F N (fun h2 F2 N2 => in_tuple_strs (ys := ss) (News.isTup N2 (.head _)) (by simpa using hs) (wpAny_truthy_bool (by rw [hb]; exact q _ _ F2 fun p hp => N2 p (.tail _ hp))))
      (by have : 20 ≤ sizeLine := by decide +kernel
          have := hs.length
          lia))) (by rfl)
theorem sel_no {b : Bool} {x y : String} {l : Str} (hx : (Str.ofString x == l) = false) (hy : (Str.ofString y == l) = false) : (sel b x y == l) = false := by
  cases b
  · exact hy
  · exact hx
theorem sel_one {b : Bool} {x y : String} {l : Str} (hx : (Str.ofString x == l) = true) (hy : (Str.ofString y == l) = false) : (sel b x y == l) = b := by
  cases b
  · exact hy
  · exact hx
theorem sel_two {b : Bool} {x y : String} {l : Str} (hx : (Str.ofString x == l) = false) (hy : (Str.ofString y == l) = true) : (sel b x y == l) = !b := by
  cases b
  · exact hy
  · exact hx
theorem sel_in {b c : Bool} {x y : String} {ss : List Str} (hx : ss.any (· == Str.ofString x) = c) (hy : ss.any (· == Str.ofString y) = c) : ss.any (· == sel b x y) = c := by
  cases b <;> assumption
theorem sel_not {b : Bool} {x y : String} : sel (!b) x y = sel b y x := by cases b <;> rfl

theorem val_in {e : PySem.Expr} {op : Str} {ss : List Str} {t : Tok} {elts : List PySem.Expr} {k : Nat} {p pos : Pos} {b : Bool} (he : Val prog w A h₀ L m news env e (.str op t)) (hl : strLits elts = some ss) (hn : ss.length ≤ 20) (hb : ss.any (· == op) = b) :
    ValH prog w A h₀ L m news env (.Compare e [.In] [.Tuple elts k p] pos) (.bool b) := fun Q E s F N q =>
  wpAny_Compare1 (he _ _ s F N fun tk1 => Tuple_ (lits_spliced (s := { s with toks := tk1 }) hl fun vs tk hs =>
    newTuple_N F N (fun h2 F2 N2 => in_tuple_strs (ys := ss) (News.isTup N2 (.head _)) (by simpa using hs) (by rw [hb]; exact q _ _ F2 fun p hp => N2 p (.tail _ hp)))
      (by have : 20 ≤ sizeLine := by decide +kernel
          have := hs.length
          lia))) (by rfl)
theorem e_val {Q E : Value → Shared → Prop} {e : PySem.Expr} {v : Value} (F : Fr h₀ L hp m) (N : News h₀ L hp news) (t : Val prog w A h₀ L m news env e v) (h : ∀ tk, Q v ⟨hp, gs, dr, tk, os⟩) :
    wpAny (model prog w) A (eval e env) Q E ⟨hp, gs, dr, k0, os⟩ := t _ _ _ F N h
theorem e_valH {Q E : Value → Shared → Prop} {e : PySem.Expr} {v : Value} (F : Fr h₀ L hp m) (N : News h₀ L hp news) (t : ValH prog w A h₀ L m news env e v) (h : ∀ h' tk, Fr h₀ L h' m → News h₀ L h' news → Q v ⟨h', gs, dr, tk, os⟩) :
    wpAny (model prog w) A (eval e env) Q E ⟨hp, gs, dr, k0, os⟩ := t _ _ _ F N h
section
variable {Q : Flow → Shared → Prop} {E : Value → Shared → Prop} {s : Shared} {test e : PySem.Expr} {body orelse rest : List Stmt} {pos p : Pos}
theorem s_no (F : Fr h₀ L s.heap m) (N : News h₀ L s.heap news) (t : Tst prog w A h₀ L m news env test false) (h : ∀ h' tk, Fr h₀ L h' m → News h₀ L h' news → wpAny (model prog w) A (execs rest env) Q E { s with heap := h', toks := tk }) :
    wpAny (model prog w) A (execs (.If test body [] pos :: rest) env) Q E s :=
  wpAny_execs_cons (wpAny_If (t _ _ s F N fun h' tk F' N' => wpAny_execs_nil (h h' tk F' N')))
theorem s_yes (F : Fr h₀ L hp m) (N : News h₀ L hp news) (t : Tst prog w A h₀ L m news env test true) (h : ∀ h' tk, Fr h₀ L h' m → News h₀ L h' news → wpAny (model prog w) A (eval e env) (fun v => Q (.ret v)) E ⟨h', gs, dr, tk, os⟩) :
    wpAny (model prog w) A (execs (.If test [.Return (some e) p] orelse pos :: rest) env) Q E ⟨hp, gs, dr, k0, os⟩ :=
  wpAny_execs_cons (wpAny_If (t _ _ _ F N fun h' tk F' N' => wpAny_execs_cons (wpAny_Return_some (h h' tk F' N'))))
theorem s_yes2 (F : Fr h₀ L hp m) (N : News h₀ L hp news) (t : Tst prog w A h₀ L m news env test true) (h : ∀ h' tk, Fr h₀ L h' m → News h₀ L h' news → wpAny (model prog w) A (execs body env) (fun f s' => match f with | .next => wpAny (model prog w) A (execs rest env) Q E s' | f => Q f s') E ⟨h', gs, dr, tk, os⟩) :
    wpAny (model prog w) A (execs (.If test body orelse pos :: rest) env) Q E ⟨hp, gs, dr, k0, os⟩ :=
  wpAny_execs_cons (wpAny_If (t _ _ _ F N fun h' tk F' N' => h h' tk F' N'))
/-- tests that fail, one behind the other -/
noncomputable def Skip (prog : Program) (w : World) (A : Around) (h₀ : Heap) (L : Addr) (m : Str → Option Value) (news : Led) (env : Env) (l r : List Stmt) : Prop :=
  ∀ (Q : Flow → Shared → Prop) (E : Value → Shared → Prop) (s : Shared), Fr h₀ L s.heap m → News h₀ L s.heap news → (∀ h' tk, Fr h₀ L h' m → News h₀ L h' news → wpAny (model prog w) A (execs r env) Q E { s with heap := h', toks := tk }) → wpAny (model prog w) A (execs l env) Q E s
theorem skip_nil : Skip prog w A h₀ L m news env rest rest := fun _ _ s F N k => k s.heap s.toks F N
theorem skip_cons {r : List Stmt} (t : Tst prog w A h₀ L m news env test false) (k : Skip prog w A h₀ L m news env r rest) : Skip prog w A h₀ L m news env (.If test body [] pos :: r) rest :=
  fun _ _ _ F N h => s_no F N t fun h' tk F' N' => k _ _ _ F' N' h
theorem skip_use {l : List Stmt} (F : Fr h₀ L hp m) (N : News h₀ L hp news) (k : Skip prog w A h₀ L m news env l rest) (h : ∀ h' tk, Fr h₀ L h' m → News h₀ L h' news → wpAny (model prog w) A (execs rest env) Q E ⟨h', gs, dr, tk, os⟩) :
    wpAny (model prog w) A (execs l env) Q E ⟨hp, gs, dr, k0, os⟩ := k _ _ _ F N h
theorem s_ret (h : wpAny (model prog w) A (eval e env) (fun v => Q (.ret v)) E s) : wpAny (model prog w) A (execs (.Return (some e) pos :: rest) env) Q E s :=
  wpAny_execs_cons (wpAny_Return_some h)
theorem s_let {cn : Str} {cs : Scope} {a : Addr} {ccd : Value} {cl : List (Str × Addr)} {x : Str} {v : Value} (he : env = envX cn cs L a ccd cl) (F : Fr h₀ L hp m) (N : News h₀ L hp news) (t : Val prog w A h₀ L m news env e v)
    (hs : swapsWith e (some (.Name x p)) pos.line env = pure false) (hk : cs.kind = .function) (hx : (envX cn cs L a ccd cl).kindOf x = some .local)
    (h : ∀ h' tk, Fr h₀ L h' (fun y => if y = x then some v else m y) → News h₀ L h' news → wpAny (model prog w) A (execs rest env) Q E ⟨h', gs, dr, tk, os⟩) :
    wpAny (model prog w) A (execs (.Assign [.Name x p] e pos :: rest) env) Q E ⟨hp, gs, dr, k0, os⟩ := by
  subst he
  exact wpAny_execs_cons (wpAny_Assign_Name (t _ _ _ F N fun _ => storeX_L F N (fun h' F' N' => h h' _ F' N') hk hx) hs)
end
section
variable {Q E : Value → Shared → Prop} {s : Shared} {test : PySem.Expr} {k k' : Nat} {pos p p' : Pos}
/-- one of two written texts by a test -/
theorem e_sel {x y : String} {b : Bool} (F : Fr h₀ L hp m) (N : News h₀ L hp news) (t : Tst prog w A h₀ L m news env test b) (h : ∀ h' tk t, Fr h₀ L h' m → News h₀ L h' news → Q (.str (sel b x y) t) ⟨h', gs, dr, tk, os⟩) :
    wpAny (model prog w) A (eval (.IfExp test (.Constant (.str (Str.ofString x)) k p) (.Constant (.str (Str.ofString y)) k' p') pos) env) Q E ⟨hp, gs, dr, k0, os⟩ :=
  wpAny_IfExp (t _ _ _ F N fun h' tk F' N' => by
    cases b
    · exact Constant_str (h h' _ _ F' N')
    · exact Constant_str (h h' _ _ F' N'))
theorem e_yes {a b : PySem.Expr} (F : Fr h₀ L hp m) (N : News h₀ L hp news) (t : Tst prog w A h₀ L m news env test true) (h : ∀ h' tk, Fr h₀ L h' m → News h₀ L h' news → wpAny (model prog w) A (eval a env) Q E ⟨h', gs, dr, tk, os⟩) :
    wpAny (model prog w) A (eval (.IfExp test a b pos) env) Q E ⟨hp, gs, dr, k0, os⟩ := wpAny_IfExp (t _ _ _ F N h)
theorem e_no {a b : PySem.Expr} (F : Fr h₀ L hp m) (N : News h₀ L hp news) (t : Tst prog w A h₀ L m news env test false) (h : ∀ h' tk, Fr h₀ L h' m → News h₀ L h' news → wpAny (model prog w) A (eval b env) Q E ⟨h', gs, dr, tk, os⟩) :
    wpAny (model prog w) A (eval (.IfExp test a b pos) env) Q E ⟨hp, gs, dr, k0, os⟩ := wpAny_IfExp (t _ _ _ F N h)
theorem e_if {a b : PySem.Expr} {c : Bool} (F : Fr h₀ L hp m) (N : News h₀ L hp news) (t : Tst prog w A h₀ L m news env test c) (yes : c = true → ∀ h' tk, Fr h₀ L h' m → News h₀ L h' news → wpAny (model prog w) A (eval a env) Q E ⟨h', gs, dr, tk, os⟩)
    (no : c = false → ∀ h' tk, Fr h₀ L h' m → News h₀ L h' news → wpAny (model prog w) A (eval b env) Q E ⟨h', gs, dr, tk, os⟩) : wpAny (model prog w) A (eval (.IfExp test a b pos) env) Q E ⟨hp, gs, dr, k0, os⟩ :=
  wpAny_IfExp (t _ _ _ F N fun h' tk F' N' => by
    cases c
    · exact no rfl h' tk F' N'
    · exact yes rfl h' tk F' N')
theorem sel_get {b : Bool} {x y r1 r2 : String} {D : List (PyData × PyData)} {dd : PyData} (h1 : (lookup (.str (Str.ofString x)) D).getD dd = .str (Str.ofString r1)) (h2 : (lookup (.str (Str.ofString y)) D).getD dd = .str (Str.ofString r2)) :
    (lookup (.str (sel b x y)) D).getD dd = .str (sel b r1 r2) := by
  cases b
  · exact h2
  · exact h1
theorem word_get {d : Addr} {D : List (PyData × PyData)} {x r : Str} {t : Tok} {dflt : Value} {dd : PyData} (T : StrTab prog w s.heap d D) (hx : PyProof.V.Flat dflt dd) (he : (lookup (.str x) D).getD dd = .str r) (h : ∀ t tk, Q (.str r t) { s with toks := tk }) :
    wpAny (model prog w) A (call (.builtin "dict.get") [.ref d, .str x t, dflt]) Q E s :=
  call_get2_strTab T hx fun v hv => by
    rw [he] at hv
    obtain ⟨u, rfl⟩ : ∃ u, v = .str r u := by
      have := hv s.heap
      cases this
      exact ⟨_, rfl⟩
    exact h _ _
end
end
end Mine
end

section
open PySem PySem.W PyProof.Rows PySem.Spec PySem.Calls
set_option Elab.async false
set_option maxRecDepth 100000
namespace Mine
section
variable {prog : Program} {w : World} {A : Around} {h₀ : Heap} {L : Addr} {m : Str → Option Value} {news : Led} {env : Env}
theorem val_glob {cn : Str} {cs : Scope} {a : Addr} {ccd : Value} {cl : List (Str × Addr)} {K : Frag} {mg mb : Str → Option Value} {p : Program} {loose : List Str} {x : Str} {pos : Pos} {v : Value}
    (he : env = envX cn cs L a ccd cl) (X : K.In h₀) (T : TopRead p loose mg mb h₀) (e : nsIn K mainGlobals x = some (some v)) (hk : cs.kind = .function) (hx : (envX cn cs L a ccd cl).kindOf x = some .globalImplicit) (hd : (x == ("__debug__" : Str)) = false) :
    Val prog w A h₀ L m news env (.Name x pos) v := fun _ _ s F N q => by subst he; exact nameX_K F X T e (q s.toks) hk hx hd
theorem val_globC {C : Addr} {scope : Scope} {cl : List (Str × Addr)} {K : Frag} {mean : ExcName → Option Value} {mg mb : Str → Option Value} {p : Program} {loose : List Str} {x : Str} {pos : Pos} {v : Value}
    (X : K.In h₀) (T : Top p loose mean mg mb h₀) (e : nsIn K mainGlobals x = some (some v)) (hg : env.globals = mainGlobals) (hk : (compEnvC scope cl C env).scope.kind = .function) (hx : (compEnvC scope cl C env).kindOf x = some .globalImplicit) (hd : (x == ("__debug__" : Str)) = false) :
    Val prog w A h₀ L m news (compEnvC scope cl C env) (.Name x pos) v := fun _ _ s F N q => LCgL.ld_global F X T e (q s.toks) hg hk hx hd
theorem val_own {C : Addr} {oC : Obj} {m₂ : Str → Option Value} {scope : Scope} {cl : List (Str × Addr)} {x : Str} {pos : Pos} {v : Value} (hm : (C, oC) ∈ news) (hC : LCg.NsObj oC m₂) (hx : m₂ x = some v)
    (hk : (compEnvC scope cl C env).scope.kind = .function) (hl : (compEnvC scope cl C env).kindOf x = some .local) (hd : (x == ("__debug__" : Str)) = false) :
    Val prog w A h₀ L m news (compEnvC scope cl C env) (.Name x pos) v := fun _ _ s F N q => LCgL.ld_own N hm hC hx (q s.toks) hk hl hd
theorem val_free {C c : Addr} {o : Obj} {scope : Scope} {cl : List (Str × Addr)} {x : Str} {pos : Pos} {v : Value} (hc : cl.lookup x = some c) (hm : (c, o) ∈ news) (ho : o.data = .cell (some v))
    (hk : (compEnvC scope cl C env).scope.kind = .function) (hx : (compEnvC scope cl C env).kindOf x = some .cell) (hb : (x == ("__debug__" : Str)) = false) :
    Val prog w A h₀ L m news (compEnvC scope cl C env) (.Name x pos) v := fun _ _ s F N q => kcf_cell N hc hm ho (q s.toks) hk hx hb
theorem val_not {e : PySem.Expr} {b : Bool} {pos : Pos} (he : Val prog w A h₀ L m news env e (.bool b)) : Val prog w A h₀ L m news env (.UnaryOp .Not e pos) (.bool (!b)) := fun _ _ s F N q =>
  UnaryOp_ (he _ _ s F N fun _ => not_of (wpAny_truthy_bool (q _)))
theorem val_bool {b : Bool} {k : Nat} {pos : Pos} : Val prog w A h₀ L m news env (.Constant (.bool b) k pos) (.bool b) := fun _ _ s F N q => Constant_bool (q s.toks)
/-- an argument: its value up to a token -/
noncomputable def Arg (prog : Program) (w : World) (A : Around) (h₀ : Heap) (L : Addr) (m : Str → Option Value) (news : Led) (env : Env) (e : PySem.Expr) (f : Tok → Value) : Prop :=
  ∀ (Q E : Value → Shared → Prop) (s : Shared), Fr h₀ L s.heap m → News h₀ L s.heap news → (∀ tk t, Q (f t) { s with toks := tk }) → wpAny (model prog w) A (eval e env) Q E s
theorem arg_val {e : PySem.Expr} {v : Value} (he : Val prog w A h₀ L m news env e v) : Arg prog w A h₀ L m news env e fun _ => v := fun _ _ s F N q => he _ _ s F N fun tk => q tk 0
theorem arg_int {i : Int} {k : Nat} {pos : Pos} : Arg prog w A h₀ L m news env (.Constant (.int i) k pos) fun t => .int i t := fun _ _ s F N q => wpAny_Constant_int (q _ _)
theorem arg_str {l : Str} {k : Nat} {pos : Pos} : Arg prog w A h₀ L m news env (.Constant (.str l) k pos) fun t => .str l t := fun _ _ s F N q => Constant_str (q _ _)
theorem arg_sub {e : PySem.Expr} {i j : Int} {u : Tok} {k : Nat} {p pos : Pos} (he : Val prog w A h₀ L m news env e (.int i u)) : Arg prog w A h₀ L m news env (.BinOp e .Sub (.Constant (.int j) k p) pos) fun t => .int (i - j) t := fun _ _ s F N q =>
  wpAny_BinOp (he _ _ s F N fun _ => wpAny_Constant_int (sub_int (q _ _)))
section
variable {K : Frag} {fn e e2 e3 : PySem.Expr} {g : Addr} {f f2 f3 : Tok → Value} {pos : Pos} {Q E : Value → Shared → Prop}
variable {hp : Heap} {gs : Array GenState} {dr : Drawn} {k0 : Nat} {os : OsState}
theorem e_call1 (F : Fr h₀ L hp m) (N : News h₀ L hp news) (X : K.In h₀) (hf : Val prog w A h₀ L m news env fn (.ref g)) (hk : keepIn K (.ref g) = true) (a1 : Arg prog w A h₀ L m news env e f)
    (hc : eval (.Call fn [e] [] pos) env = (do callWith pos (← eval fn env) [] (backTo pos (starEach [e] env)) (backToKw pos (keywordEach [] env))))
    (he : starEach [e] env = (false, eval e env) :: starEach [] env)
    (h : ∀ tk t, wpAny (model prog w) A (call (.ref g) [f t]) Q E ⟨hp, gs, dr, tk, os⟩) : wpAny (model prog w) A (eval (.Call fn [e] [] pos) env) Q E ⟨hp, gs, dr, k0, os⟩ :=
  Call_ (hf _ _ _ F N fun _ => callWith_K X hk (args_cons (a1 _ _ _ F N fun _ t => args_nil ⟨X.keeps F.keep, h _ t⟩) he) he (by rfl)) hc
theorem e_call2 (F : Fr h₀ L hp m) (N : News h₀ L hp news) (X : K.In h₀) (hf : Val prog w A h₀ L m news env fn (.ref g)) (hk : keepIn K (.ref g) = true) (a1 : Arg prog w A h₀ L m news env e f) (a2 : Arg prog w A h₀ L m news env e2 f2)
    (hc : eval (.Call fn [e, e2] [] pos) env = (do callWith pos (← eval fn env) [] (backTo pos (starEach [e, e2] env)) (backToKw pos (keywordEach [] env))))
    (he : starEach [e, e2] env = (false, eval e env) :: starEach [e2] env) (he2 : starEach [e2] env = (false, eval e2 env) :: starEach [] env) (hpl : (backTo pos (starEach [e2] env)).any (·.1) = false)
    (h : ∀ tk t u, wpAny (model prog w) A (call (.ref g) [f t, f2 u]) Q E ⟨hp, gs, dr, tk, os⟩) : wpAny (model prog w) A (eval (.Call fn [e, e2] [] pos) env) Q E ⟨hp, gs, dr, k0, os⟩ :=
  Call_ (hf _ _ _ F N fun _ => callWith_K X hk (args_cons (a1 _ _ _ F N fun _ t => args_cons (a2 _ _ _ F N fun _ u => args_nil ⟨X.keeps F.keep, h _ t u⟩) he2) he) he hpl) hc
theorem e_call3 (F : Fr h₀ L hp m) (N : News h₀ L hp news) (X : K.In h₀) (hf : Val prog w A h₀ L m news env fn (.ref g)) (hk : keepIn K (.ref g) = true) (a1 : Arg prog w A h₀ L m news env e f) (a2 : Arg prog w A h₀ L m news env e2 f2) (a3 : Arg prog w A h₀ L m news env e3 f3)
    (hc : eval (.Call fn [e, e2, e3] [] pos) env = (do callWith pos (← eval fn env) [] (backTo pos (starEach [e, e2, e3] env)) (backToKw pos (keywordEach [] env))))
    (he : starEach [e, e2, e3] env = (false, eval e env) :: starEach [e2, e3] env) (he2 : starEach [e2, e3] env = (false, eval e2 env) :: starEach [e3] env) (he3 : starEach [e3] env = (false, eval e3 env) :: starEach [] env) (hpl : (backTo pos (starEach [e2, e3] env)).any (·.1) = false)
    (h : ∀ tk t u v, wpAny (model prog w) A (call (.ref g) [f t, f2 u, f3 v]) Q E ⟨hp, gs, dr, tk, os⟩) : wpAny (model prog w) A (eval (.Call fn [e, e2, e3] [] pos) env) Q E ⟨hp, gs, dr, k0, os⟩ :=
  Call_ (hf _ _ _ F N fun _ => callWith_K X hk (args_cons (a1 _ _ _ F N fun _ t => args_cons (a2 _ _ _ F N fun _ u => args_cons (a3 _ _ _ F N fun _ v => args_nil ⟨X.keeps F.keep, h _ t u v⟩) he3) he2) he) he hpl) hc
end
end
end Mine
end

section
open PySem PySem.W PyProof.Rows PySem.Spec PySem.Calls
set_option Elab.async false
set_option maxRecDepth 100000
namespace Mine
/-- the feed's items -/
noncomputable abbrev feedK (lc : Addr) (k : Int) (tk : Tok) (c : Int) (tc : Tok) : List (Str × Value) :=
  [(Str.ofString "cells", .ref lc), (Str.ofString "at", .int k tk), (Str.ofString "iffs", .int c tc)]
noncomputable abbrev SK (w : World) : KeyKind PySem.Challenge.rw_rr0087_01.row.prog w Str := strKind PySem.Challenge.rw_rr0087_01.row.prog w
/-- a def that draws from the feed -/
noncomputable def Mut {D : Type} (w : World) (mean : ExcName → Option Value) (mg mb : Str → Option Value) (f : Addr) (Rel : Led → List Value → D → Prop) (size : D → Nat) (cost : D → Int) (Out : Led → Value → D → Prop) (d : D) : Prop :=
  ∀ (dp un : Nat) (gd : Option (List Code)) (cn : Str) (cs : Scope) (a : Addr) (ccd : Value) (cl : List (Str × Addr)) (outer : List Env) (A₀ : Around) (base h₀ : Heap) (L : Addr) (m : Str → Option Value) (news nr : Led) (s : Shared) (vs : List Value)
    (Q E : Value → Shared → Prop) (lc fd : Addr) (o : Obj) (k c : Int) (tk tc : Tok) (xs : List Value) (ns : List Int) (xn : Nat),
    Below A₀ base outer h₀ → Fr h₀ L s.heap m → (heap w.params).In h₀ → News h₀ L s.heap ((fd, o) :: news) → o.IsDictOf (SK w) (feedK lc k tk c tc) → (fd == sysModules) = false → LCg.Off1 fd news → Top PV LS mean mg mb h₀ → cs.kind = .function →
    Sub nr news → (lc, cellsO xs xn) ∈ news → IntsAre xs ns → xs.length ≤ 40 → 0 ≤ k → k + cost d ≤ 1000 → 0 ≤ c → c + cost d ≤ 1000 → Rel nr vs d → dp + size d < recursionLimit → un + 8 * size d < cLine →
    (∀ r tl h' tk' o' k' c' tk1 tc1, Fr h₀ L h' m → News h₀ L h' ((fd, o') :: (news ++ tl)) → o'.IsDictOf (SK w) (feedK lc k' tk1 c' tc1) → (∀ q ∈ news, ∀ p ∈ tl, q.1 < p.1) → (∀ p ∈ tl, fd < p.1) → 0 ≤ k' → k' ≤ k + cost d → 0 ≤ c' → c' ≤ c + cost d → Out (nr ++ tl) r d → Q r { s with heap := h', toks := tk' }) →
    wpAny (model PySem.Challenge.rw_rr0087_01.row.prog w) (ktrTop dp un gd cn cs L a ccd cl outer) (call (.ref f) (.ref fd :: vs)) Q E s
/-- draw: an int below its bound -/
noncomputable def DrawOk (w : World) (mean : ExcName → Option Value) (mg mb : Str → Option Value) : Prop :=
  ∀ (dp un : Nat) (gd : Option (List Code)) (cn : Str) (cs : Scope) (a : Addr) (ccd : Value) (cl : List (Str × Addr)) (outer : List Env) (A₀ : Around) (base h₀ : Heap) (L : Addr) (m : Str → Option Value) (news : Led) (s : Shared) (wide : Int) (tw : Tok)
    (Q E : Value → Shared → Prop) (lc fd : Addr) (o : Obj) (k c : Int) (tk tc : Tok) (xs : List Value) (ns : List Int) (xn : Nat),
    Below A₀ base outer h₀ → Fr h₀ L s.heap m → (heap w.params).In h₀ → News h₀ L s.heap ((fd, o) :: news) → o.IsDictOf (SK w) (feedK lc k tk c tc) → (fd == sysModules) = false → LCg.Off1 fd news → Top PV LS mean mg mb h₀ → cs.kind = .function →
    (lc, cellsO xs xn) ∈ news → IntsAre xs ns → xs.length ≤ 40 → 0 < wide → wide < 100 → 0 ≤ k → k + 1 ≤ 1000 → dp + 1 < recursionLimit → un + 8 < cLine →
    (∀ x t h' tk' o' tk1 tc1, Fr h₀ L h' m → News h₀ L h' ((fd, o') :: news) → o'.IsDictOf (SK w) (feedK lc (k + 1) tk1 c tc1) → 0 ≤ x → x < wide → Q (.int x t) { s with heap := h', toks := tk' }) →
    wpAny (model PySem.Challenge.rw_rr0087_01.row.prog w) (ktrTop dp un gd cn cs L a ccd cl outer) (call (.ref 221) [.ref fd, .int wide tw]) Q E s
end Mine
end

section
open PySem PySem.W PyProof.Rows PySem.Spec PySem.Calls
set_option Elab.async false
set_option maxRecDepth 100000
namespace Mine
/-- n names in sight, never more than seven -/
noncomputable def sc : Form → Nat → Prop
  | .tf _, _ | .some _, _ | .con0 _, _ => True
  | .inn k _, n => k < n
  | .not f, n | .con1 _ f, n => sc f n
  | .con2 _ f g, n | .imp f g, n | .iff f g, n => sc f n ∧ sc g n
  | .qu _ k rs f, n => k = n ∧ rs.length ≤ 2 ∧ n + rs.length ≤ 7 ∧ sc f (n + rs.length)
/-- the names x0 .. -/
noncomputable def names (n : Nat) : List Str := (List.range n).map xname
theorem names_length (n : Nat) : (names n).length = n := by simp [names]
theorem names_get {n k : Nat} (h : k < n) : (names n)[k]? = some (xname k) := by simp [names, h]
theorem names_succ (n : Nat) : names (n + 1) = names n ++ [xname n] := by simp [names, List.range_succ]
theorem idx3 {x : Int} {P : Prop} (h0 : 0 ≤ x) (h1 : x < 3) (a : x = 0 → P) (b : x = 1 → P) (c : x = 2 → P) : P := by
  have : x = 0 ∨ x = 1 ∨ x = 2 := by lia
  rcases this with h | h | h
  · exact a h
  · exact b h
  · exact c h
theorem idx2 {x : Int} {P : Prop} (h0 : 0 ≤ x) (h1 : x < 2) (a : x = 0 → P) (b : x = 1 → P) : P := by
  have : x = 0 ∨ x = 1 := by lia
  rcases this with h | h
  · exact a h
  · exact b h
inductive NIn (news : Led) : Value → Nat → Prop where
  | mk {a : Addr} {vs : List Value} {k n : Nat} : (a, cellsO vs k) ∈ news → StrsAre vs (names n) → NIn news (.ref a) n
theorem NIn.mono {news news' : Led} {v n} (h : NIn news v n) (hs : Sub news news') : NIn news' v n := by
  cases h with | mk h k => exact .mk (hs _ h) k
theorem strs_reads {h : Heap} : ∀ {vs : List Value} {ss : List Str}, StrsAre vs ss → ∃ as, ReadsAll h vs (ss.map PyData.str) as
  | _, _, .nil => ⟨_, ReadsAll.nil⟩
  | _, _, .cons _ _ r => let ⟨_, q⟩ := strs_reads r; ⟨_, ReadsAll.cons (Reads.str _ _) q⟩
theorem names_shaped {n : Nat} (hn : n ≤ 6) : SeqAt.shaped (.list ((names n).map PyData.str)) = true := by
  obtain rfl | rfl | rfl | rfl | rfl | rfl | rfl : n = 0 ∨ n = 1 ∨ n = 2 ∨ n = 3 ∨ n = 4 ∨ n = 5 ∨ n = 6 := by lia
  all_goals decide +kernel
theorem names_nil {prog : Program} {w : World} {A : Around} {E : Value → Shared → Prop} {s : Shared} {h₀ : Heap} {L a b : Addr} {news : Led} {vs : List Value} {k kb n : Nat} {Q : Value → Shared → Prop}
    (N : News h₀ L s.heap news) (ha : (a, cellsO vs k) ∈ news) (hv : StrsAre vs (names n)) (hn : n ≤ 6) (hb : (b, cellsO [] kb) ∈ news) (hu : A.units + 64 < cLine) (h : Q (.bool (decide (n = 0))) s) :
    wpAny (model prog w) A (compareOp .Eq (.ref a) (.ref b)) Q E s := by
  obtain ⟨as, ra⟩ := strs_reads (h := s.heap) hv
  refine eq_dataH (reads_list_at (N.get ha) rfl rfl (by simpa using ra)) (reads_list_at (N.get hb) rfl rfl (by simpa using ReadsAll.nil)) (names_shaped hn) (by decide +kernel) hu ?_
  have e : PyData.eqv (.list ((names n).map PyData.str)) (.list []) = decide (n = 0) := by
    cases n with
    | zero => rfl
    | succ n =>
      rw [names, List.range_succ_eq_map]
      simp [PyData.eqv, PyData.eqvAll]
  rw [e]; exact h
theorem item_name {prog : Program} {w : World} {A : Around} {E : Value → Shared → Prop} {s : Shared} {h₀ : Heap} {L a : Addr} {news : Led} {vs : List Value} {k n : Nat} {x : Int} {u : Tok} {Q : Value → Shared → Prop} {value slice : Expr}
    (N : News h₀ L s.heap news) (ha : (a, cellsO vs k) ∈ news) (hv : StrsAre vs (names n)) (hn : n ≤ 6) (h0 : n ≠ 0) (hx : 0 ≤ x) (h : ∀ j t, j < n → Q (.str (xname j) t) s)
    (hs : subscripted slice false (.ref a) (.int (-1 - Int.fmod x (n : Int)) u) = operate [.ref a, .int (-1 - Int.fmod x (n : Int)) u] (getItem (.ref a) (.int (-1 - Int.fmod x (n : Int)) u)) := by with_unfolding_all rfl) :
    wpAny (model prog w) A (subscriptTail value slice (.ref a) (.int (-1 - Int.fmod x (n : Int)) u)) Q E s := by
  have hp : (0 : Int) < (n : Int) := by lia
  have f0 := Int.fmod_nonneg_of_pos x hp
  have f1 := Int.fmod_lt_of_pos x hp
  generalize Int.fmod x (n : Int) = y at *
  obtain ⟨j, hj, hjn⟩ : ∃ j : Nat, (-1 - y + (n : Int)).toNat = j ∧ j < n := ⟨_, rfl, by lia⟩
  refine item_strs_negR (News.isList N ha) hv (by lia) (by rw [names_length]; lia) (by lia) (fun t => ?_) hs
  rw [names_length, hj]
  have e : (names n).getD j Str.empty = xname j := by
    rw [List.getD_eq_getElem?_getD, names_get hjn]; rfl
  rw [e]; exact h j t hjn
theorem NIn.one {a : Addr} {vs : List Value} {k n : Nat} (h : StrsAre vs (names n)) : NIn [(a, cellsO vs k)] (.ref a) n := .mk (.head _) h
theorem names_one {vs : List Value} {n : Nat} {x : Int} {t : Tok} (h : StrsAre vs (names n)) (hx : x = ((n : Nat) : Int)) : StrsAre (vs ++ [.str (Str.ofString "x" ++ Str.ofString (toString x)) t]) (names (n + 1)) := by
  subst hx
  rw [names_succ]
  exact StrsAre.append' h (.cons _ _ .nil)
theorem names_two {vs : List Value} {n : Nat} {x y : Int} {t u : Tok} (h : StrsAre vs (names n)) (hx : x = ((n : Nat) : Int)) (hy : y = ((n + 1 : Nat) : Int)) : StrsAre (vs ++ [.str (Str.ofString "x" ++ Str.ofString (toString x)) t, .str (Str.ofString "x" ++ Str.ofString (toString y)) u]) (names (n + 2)) := by
  subst hx hy
  rw [names_succ, names_succ, List.append_assoc]
  exact StrsAre.append' h (.cons _ _ (.cons _ _ .nil))
theorem names_add {prog : Program} {w : World} {A : Around} {E : Value → Shared → Prop} {s : Shared} {h₀ : Heap} {L a b : Addr} {m : Str → Option Value} {news : Led} {vs ws : List Value} {k kb n : Nat} {Q : Value → Shared → Prop}
    (F : Fr h₀ L s.heap m) (N : News h₀ L s.heap news) (ha : (a, cellsO vs k) ∈ news) (hv : StrsAre vs (names n)) (hn : n ≤ 6) (hb : (b, cellsO ws kb) ∈ news) (hw : ws.length ≤ 8)
    (h : ∀ D h', Fr h₀ L h' m → News h₀ L h' ((D, ({ cls := .type "list", data := .seq (vs ++ ws).toArray } : Obj)) :: news) → (∀ p ∈ news, p.1 < D) → Q (.ref D) { s with heap := h' }) :
    wpAny (model prog w) A (binaryOp .Add (.ref a) (.ref b)) Q E s := by
  have hl := StrsAre.length hv
  rw [names_length] at hl
  refine add_lists (vs := vs) (ws := ws) F N (News.isList N ha) (News.isList N hb) (fun h' F' N' => h _ h' F' N' fun p hp => Heap.lt_size (N p hp).1) ?_
  have : (16 : Nat) ≤ sizeLine := by decide +kernel
  lia
inductive ARel (news : Led) : List Value → Nat → Prop where
  | mk {v n} : NIn news v n → n ≤ 6 → ARel news [v] n
noncomputable abbrev atomSize (_ : Nat) : Nat := 12
noncomputable abbrev atomCost (_ : Nat) : Int := 2
/-- a formula: so deep, so many names in sight -/
noncomputable abbrev formOut {D : Type} (z n : D → Nat) (news : Led) (r : Value) (d : D) : Prop := ∃ F, FIn news r F ∧ F.size ≤ z d ∧ sc F (n d)
noncomputable abbrev atomOut : Led → Value → Nat → Prop := formOut (fun _ => 1) (fun n => n)
/-- drawn: a formula, n names in sight, at most d deep -/
inductive DnRel (news : Led) : List Value → Nat × Nat → Prop where
  | mk {v n d x t} : NIn news v n → x = ((d : Nat) : Int) → n + 2 * d ≤ 6 → DnRel news [v, .int x t] (n, d)
noncomputable abbrev drawnSize (q : Nat × Nat) : Nat := q.2 + 20
noncomputable def costD : Nat → Int
  | 0 => 3
  | d + 1 => 3 + 2 * costD d
theorem costD_3 : ∀ d, 3 ≤ costD d
  | 0 => by simp [costD]
  | d + 1 => by have := costD_3 d; simp only [costD]; lia
noncomputable abbrev drawnCost (q : Nat × Nat) : Int := costD q.2
noncomputable abbrev drawnOut : Led → Value → Nat × Nat → Prop := formOut (fun q => q.2 + 1) (fun q => q.1)
theorem idx9 {x : Int} {P : Prop} (h0 : 0 ≤ x) (h1 : x < 9) (a0 : x = 0 → P) (a1 : x = 1 → P) (a2 : x = 2 → P) (a3 : x = 3 → P) (a4 : x = 4 → P) (a5 : x = 5 → P) (a6 : x = 6 → P) (a7 : x = 7 → P) (a8 : x = 8 → P) : P := by
  have : x = 0 ∨ x = 1 ∨ x = 2 ∨ x = 3 ∨ x = 4 ∨ x = 5 ∨ x = 6 ∨ x = 7 ∨ x = 8 := by lia
  rcases this with h | h | h | h | h | h | h | h | h
  · exact a0 h
  · exact a1 h
  · exact a2 h
  · exact a3 h
  · exact a4 h
  · exact a5 h
  · exact a6 h
  · exact a7 h
  · exact a8 h
theorem idx1 {x : Int} {P : Prop} (h0 : 0 ≤ x) (h1 : x < 1) (a0 : x = 0 → P) : P := a0 (by lia)
section
variable {D : Type} {w : World} {mean : ExcName → Option Value} {mg mb : Str → Option Value} {f : Addr} {Rel : Led → List Value → D → Prop} {size : D → Nat} {cost : D → Int} {Out : Led → Value → D → Prop}
theorem mut_of (step : ∀ d, (∀ d', size d' < size d → Mut w mean mg mb f Rel size cost Out d') → Mut w mean mg mb f Rel size cost Out d) : ∀ d, Mut w mean mg mb f Rel size cost Out d := by
  have all : ∀ n, ∀ d, size d < n → Mut w mean mg mb f Rel size cost Out d := by
    intro n
    induction n with
    | zero => intro d h; exact absurd h (Nat.not_lt_zero _)
    | succ n ih => exact fun d h => step d fun d' h' => ih d' (Nat.lt_of_lt_of_le h' (Nat.le_of_lt_succ h))
  exact fun d => all _ d (Nat.lt_succ_self _)
/-- the ledger l but for one object -/
structure Cut1 (D : Addr) (l l' : Led) : Prop where
  sub : ∀ p ∈ l', p ∈ l
  off : LCg.Off1 D l'
theorem Cut1.base {D : Addr} {l : Led} (h : LCg.Off1 D l) : Cut1 D l l := ⟨fun _ h => h, h⟩
theorem Cut1.skip {D : Addr} {o : Obj} {l l' : Led} (e : Cut1 D l l') : Cut1 D ((D, o) :: l) l' := ⟨fun p hp => .tail _ (e.sub p hp), e.off⟩
theorem Cut1.cons {D a : Addr} {o : Obj} {l l' : Led} (n : @Ne Nat a D) (e : Cut1 D l l') : Cut1 D ((a, o) :: l) ((a, o) :: l') :=
  ⟨fun p hp => by
    rcases List.mem_cons.mp hp with rfl | hp
    · exact .head _
    · exact .tail _ (e.sub p hp), ⟨n, e.off⟩⟩
theorem Cut1.app {D : Addr} {l l' t : Led} (e : Cut1 D l l') (h : LCg.Off1 D t) : Cut1 D (l ++ t) (l' ++ t) :=
  ⟨fun p hp => (List.mem_append.mp hp).elim (fun q => List.mem_append.mpr (.inl (e.sub p q))) fun q => List.mem_append.mpr (.inr q), off1_app e.off h⟩
theorem use_M {d : D} {dp un : Nat} {gd : Option (List Code)} {cn : Str} {cs : Scope} {a : Addr} {ccd : Value} {cl : List (Str × Addr)} {outer : List Env} {A₀ : Around} {base h₀ : Heap} {L : Addr} {m : Str → Option Value} {l news nr : Led} {s : Shared} {vs : List Value}
    {Q E : Value → Shared → Prop} {lc fd : Addr} {o : Obj} {k c : Int} {tk tc : Tok} {xs : List Value} {ns : List Int} {xn : Nat}
    (C : Mut w mean mg mb f Rel size cost Out d) (B : Below A₀ base outer h₀) (F : Fr h₀ L s.heap m) (X : (heap w.params).In h₀) (N : News h₀ L s.heap l) (ho : o.IsDictOf (SK w) (feedK lc k tk c tc)) (hm : (fd, o) ∈ l) (hsy : (fd == sysModules) = false) (cut : Cut1 fd l news) (T : Top PV LS mean mg mb h₀) (hk : cs.kind = .function)
    (hI : IntsAre xs ns) (hlc : (lc, cellsO xs xn) ∈ news) (hxl : xs.length ≤ 40) (R : Rel nr vs d) (hs : Sub nr news) (k0 : 0 ≤ k) (k1 : k + cost d ≤ 1000) (c0 : 0 ≤ c) (c1 : c + cost d ≤ 1000)
    (hd : dp + size d < recursionLimit) (hu : un + 8 * size d < cLine)
    (ret : ∀ r tl h' tk' o' k' c' tk1 tc1, Fr h₀ L h' m → News h₀ L h' ((fd, o') :: (news ++ tl)) → o'.IsDictOf (SK w) (feedK lc k' tk1 c' tc1) → (∀ q ∈ news, ∀ p ∈ tl, q.1 < p.1) → (∀ p ∈ tl, fd < p.1) → 0 ≤ k' → k' ≤ k + cost d → 0 ≤ c' → c' ≤ c + cost d → Out (nr ++ tl) r d → Q r { s with heap := h', toks := tk' }) :
    wpAny (model PySem.Challenge.rw_rr0087_01.row.prog w) (ktrTop dp un gd cn cs L a ccd cl outer) (call (.ref f) (.ref fd :: vs)) Q E s :=
  C _ _ _ _ _ _ _ _ _ _ _ _ _ _ _ _ _ _ _ _ _ _ _ _ _ _ _ _ _ _ B F X (fun p hp => by
    rcases List.mem_cons.mp hp with rfl | hp
    · exact N _ hm
    · exact N _ (cut.sub _ hp)) ho hsy cut.off T hk hs hlc hI hxl k0 k1 c0 c1 R hd hu ret
theorem use_F {z n : D → Nat} {d : D} {dp un : Nat} {gd : Option (List Code)} {cn : Str} {cs : Scope} {a : Addr} {ccd : Value} {cl : List (Str × Addr)} {outer : List Env} {A₀ : Around} {base h₀ : Heap} {L : Addr} {m : Str → Option Value} {l news nr : Led} {s : Shared} {vs : List Value}
    {Q E : Value → Shared → Prop} {lc fd : Addr} {o : Obj} {k c : Int} {tk tc : Tok} {xs : List Value} {ns : List Int} {xn : Nat}
    (C : Mut w mean mg mb f Rel size cost (formOut z n) d) (B : Below A₀ base outer h₀) (F : Fr h₀ L s.heap m) (X : (heap w.params).In h₀) (N : News h₀ L s.heap l) (ho : o.IsDictOf (SK w) (feedK lc k tk c tc)) (hm : (fd, o) ∈ l) (hsy : (fd == sysModules) = false) (cut : Cut1 fd l news) (T : Top PV LS mean mg mb h₀) (hk : cs.kind = .function)
    (hI : IntsAre xs ns) (hlc : (lc, cellsO xs xn) ∈ news) (hxl : xs.length ≤ 40) (R : Rel nr vs d) (hs : Sub nr news) (k0 : 0 ≤ k) (k1 : k + cost d ≤ 1000) (c0 : 0 ≤ c) (c1 : c + cost d ≤ 1000)
    (hd : dp + size d < recursionLimit) (hu : un + 8 * size d < cLine)
    (ret : ∀ r G tl h' tk' o' k' c' tk1 tc1, Fr h₀ L h' m → News h₀ L h' ((fd, o') :: (news ++ tl)) → o'.IsDictOf (SK w) (feedK lc k' tk1 c' tc1) → (∀ q ∈ news, ∀ p ∈ tl, q.1 < p.1) → (∀ p ∈ tl, fd < p.1) → 0 ≤ k' → k' ≤ k + cost d → 0 ≤ c' → c' ≤ c + cost d → FIn (nr ++ tl) r G → G.size ≤ z d → sc G (n d) → Q r { s with heap := h', toks := tk' }) :
    wpAny (model PySem.Challenge.rw_rr0087_01.row.prog w) (ktrTop dp un gd cn cs L a ccd cl outer) (call (.ref f) (.ref fd :: vs)) Q E s :=
  use_M C B F X N ho hm hsy cut T hk hI hlc hxl R hs k0 k1 c0 c1 hd hu fun _ _ _ _ _ _ _ _ _ a b c d e f g i j ⟨_, o, p, q⟩ => ret _ _ _ _ _ _ _ _ _ _ a b c d e f g i j o p q
theorem use_draw {dp un : Nat} {gd : Option (List Code)} {cn : Str} {cs : Scope} {a : Addr} {ccd : Value} {cl : List (Str × Addr)} {outer : List Env} {A₀ : Around} {base h₀ : Heap} {L : Addr} {m : Str → Option Value} {l news : Led} {s : Shared}
    {Q E : Value → Shared → Prop} {lc fd : Addr} {o : Obj} {k c wide : Int} {tk tc tw : Tok} {xs : List Value} {ns : List Int} {xn : Nat}
    (C : DrawOk w mean mg mb) (B : Below A₀ base outer h₀) (F : Fr h₀ L s.heap m) (X : (heap w.params).In h₀) (N : News h₀ L s.heap l) (ho : o.IsDictOf (SK w) (feedK lc k tk c tc)) (hm : (fd, o) ∈ l) (hsy : (fd == sysModules) = false) (cut : Cut1 fd l news) (T : Top PV LS mean mg mb h₀) (hk : cs.kind = .function)
    (hI : IntsAre xs ns) (hlc : (lc, cellsO xs xn) ∈ news) (hxl : xs.length ≤ 40) (w0 : 0 < wide) (w1 : wide < 100) (k0 : 0 ≤ k) (k1 : k + 1 ≤ 1000) (hd : dp + 1 < recursionLimit) (hu : un + 8 < cLine)
    (ret : ∀ x t h' tk' o' tk1 tc1, Fr h₀ L h' m → News h₀ L h' ((fd, o') :: news) → o'.IsDictOf (SK w) (feedK lc (k + 1) tk1 c tc1) → 0 ≤ x → x < wide → Q (.int x t) { s with heap := h', toks := tk' }) :
    wpAny (model PySem.Challenge.rw_rr0087_01.row.prog w) (ktrTop dp un gd cn cs L a ccd cl outer) (call (.ref 221) [.ref fd, .int wide tw]) Q E s :=
  C _ _ _ _ _ _ _ _ _ _ _ _ _ _ _ _ _ _ _ _ _ _ _ _ _ _ _ _ _ _ B F X (all_cons (N _ hm) fun p hp => N _ (cut.sub _ hp)) ho hsy cut.off T hk hlc hI hxl w0 w1 k0 k1 hd hu ret
theorem room2 {dp a b : Nat} (h : dp + b < recursionLimit) (k : a + 1 ≤ b) : dp + 1 + a < recursionLimit := by lia
theorem units2 {un a b : Nat} (h : un + 8 * b < cLine) (k : a + 1 ≤ b) : un + 3 + 8 * a < cLine := by lia
theorem item_sel {prog : Program} {A : Around} {E : Value → Shared → Prop} {s : Shared} {h₀ : Heap} {L a : Addr} {news : Led} {x y : String} {t1 t2 u : Tok} {n : Nat} {i : Int} {Q : Value → Shared → Prop} {value slice : PySem.Expr}
    (N : News h₀ L s.heap news) (hm : (a, cellsO [.str (Str.ofString x) t1, .str (Str.ofString y) t2] n) ∈ news) (h0 : 0 ≤ i) (h1 : i < 2) (h : ∀ t, Q (.str (sel (i == 0) x y) t) s)
    (he : ∀ a, subscripted slice false (.ref a) (.int i u) = operate [.ref a, .int i u] (getItem (.ref a) (.int i u)) := by intro _; with_unfolding_all rfl) :
    wpAny (model prog w) A (subscriptTail value slice (.ref a) (.int i u)) Q E s := by
  have hl : s.heap.IsList a [Value.str (Str.ofString x) t1, .str (Str.ofString y) t2].toArray := News.isList N hm
  obtain rfl | rfl : i = 0 ∨ i = 1 := by lia
  · exact tail_any hl.typeIs slot_list_getitem.lookup (wpAny_getItem_list hl (by decide) (by decide) (by rfl) (h t1)) (he _)
  · exact tail_any hl.typeIs slot_list_getitem.lookup (wpAny_getItem_list hl (by decide) (by decide) (by rfl) (h t2)) (he _)
/-- the end of a walk that has drawn -/
theorem ret_M {d : D} {h₀ : Heap} {L : Addr} {m : Str → Option Value} {news nr l tl : Led} {s : Shared} {Q : Value → Shared → Prop} {r : Value} {h' : Heap} {tk' : Nat} {fd lc : Addr} {o' : Obj} {k k' c c' : Int} {tk1 tc1 : Tok}
    (ret : ∀ r tl h' tk' o' k' c' tk1 tc1, Fr h₀ L h' m → News h₀ L h' ((fd, o') :: (news ++ tl)) → o'.IsDictOf (SK w) (feedK lc k' tk1 c' tc1) → (∀ q ∈ news, ∀ p ∈ tl, q.1 < p.1) → (∀ p ∈ tl, fd < p.1) → 0 ≤ k' → k' ≤ k + cost d → 0 ≤ c' → c' ≤ c + cost d → Out (nr ++ tl) r d → Q r { s with heap := h', toks := tk' })
    (F : Fr h₀ L h' m) (N : News h₀ L h' l) (ho : o'.IsDictOf (SK w) (feedK lc k' tk1 c' tc1)) (hm : (fd, o') ∈ l) (e : Ends news l tl) (hfd : ∀ p ∈ tl, fd < p.1) (k0 : 0 ≤ k') (k1 : k' ≤ k + cost d) (c0 : 0 ≤ c') (c1 : c' ≤ c + cost d) (out : Out (nr ++ tl) r d) : Q r { s with heap := h', toks := tk' } :=
  ret _ _ _ _ _ _ _ _ _ F (fun p hp => by
    rcases List.mem_cons.mp hp with rfl | hp
    · exact N _ hm
    · exact N _ (e.sub _ hp)) ho e.ord hfd k0 k1 c0 c1 out
theorem leave_M {d : D} {h₀ g : Heap} {L L' : Addr} {m m' : Str → Option Value} {news nr l tl : Led} {s : Shared} {R : Result → Shared → Prop} {r : Value} {h' : Heap} {tk' : Nat} {fd lc : Addr} {o' : Obj} {k k' c c' : Int} {tk1 tc1 : Tok}
    (ret : ∀ r tl h' tk' o' k' c' tk1 tc1, Fr h₀ L h' m → News h₀ L h' ((fd, o') :: (news ++ tl)) → o'.IsDictOf (SK w) (feedK lc k' tk1 c' tc1) → (∀ q ∈ news, ∀ p ∈ tl, q.1 < p.1) → (∀ p ∈ tl, fd < p.1) → 0 ≤ k' → k' ≤ k + cost d → 0 ≤ c' → c' ≤ c + cost d → Out (nr ++ tl) r d → R (.ok (.ret r)) { s with heap := h', toks := tk' })
    (F : Fr g L' h' m') (N : News g L' h' l) (ho : o'.IsDictOf (SK w) (feedK lc k' tk1 c' tc1)) (hm : (fd, o') ∈ l) (e : Ends news l tl) (hfd : ∀ p ∈ tl, fd < p.1) (k0 : 0 ≤ k') (k1 : k' ≤ k + cost d) (c0 : 0 ≤ c') (c1 : c' ≤ c + cost d) (out : Out (nr ++ tl) r d) : LeaveK h₀ L m g R r { s with heap := h', toks := tk' } :=
  leaveK_ F N fun F N => ret_M (Q := fun r s' => R (.ok (.ret r)) s') ret F N ho hm e hfd k0 k1 c0 c1 out
theorem above_cons {b : Addr} {e : Addr × Obj} {tl : Led} (h : @LT.lt Nat _ b e.1) (k : ∀ p ∈ tl, b < p.1) : ∀ p ∈ e :: tl, b < p.1 := fun p hp => by
  rcases List.mem_cons.mp hp with rfl | hp
  · exact h
  · exact k p hp
theorem above_app {b : Addr} {t t' : Led} (h : ∀ p ∈ t, b < p.1) (k : ∀ p ∈ t', b < p.1) : ∀ p ∈ t ++ t', b < p.1 := fun p hp => (List.mem_append.mp hp).elim (h p) (k p)
theorem above_nil {b : Addr} : ∀ p ∈ ([] : Led), b < p.1 := fun _ h => nomatch h
end
section
variable {h₀ h h' : Heap} {L a : Addr} {o : Obj} {news : Led}
theorem news_cons (x : h.get? a = some o) (y : a ≠ L) (z : h₀.get? a = none) (N : News h₀ L h news) : News h₀ L h ((a, o) :: news) := fun _ hp => (List.mem_cons.mp hp).elim (fun q => q ▸ ⟨x, y, z⟩) (N _)
theorem news_at {e : Addr × Obj} {all : Led} (N : News h₀ L h all) (i : e ∈ all) (k : News h₀ L h news) : News h₀ L h (e :: news) := fun _ hp => (List.mem_cons.mp hp).elim (fun q => q ▸ N _ i) (k _)
theorem news_tl {e : Addr × Obj} (N : News h₀ L h (e :: news)) : News h₀ L h news := fun p hp => N p (.tail _ hp)
theorem news_same {d : Addr} (N : News h₀ L h news) (hs : Heap.SameBut d h h') (off : ∀ p ∈ news, p.1 ≠ d) : News h₀ L h' news := fun p hp => ⟨hs.extBut _ _ (off p hp) (N p hp).1, (N p hp).2⟩
theorem off_cons {d : Addr} (x : a ≠ d) (off : ∀ p ∈ news, p.1 ≠ d) : ∀ p ∈ ((a, o) :: news : Led), p.1 ≠ d := fun p hp => (List.mem_cons.mp hp).elim (fun q => q ▸ x) (off p)
theorem off_I {I C D : Addr} (x : LCg.Off3 I C D news) : ∀ p ∈ news, p.1 ≠ I := fun p hp => (x.mem p hp).1
theorem off_C {I C D : Addr} (x : LCg.Off3 I C D news) : ∀ p ∈ news, p.1 ≠ C := fun p hp => (x.mem p hp).2.1
theorem off_D {I C D : Addr} (x : LCg.Off3 I C D news) : ∀ p ∈ news, p.1 ≠ D := fun p hp => (x.mem p hp).2.2
theorem iter_obj {I ax : Addr} {i : Nat} (h : Heap.IsListIter g I ax i) : ∃ oI, g.get? I = some oI ∧ (∀ f : Heap, f.get? I = some oI → f.IsListIter I ax i) := let ⟨o, e, r⟩ := h; ⟨o, e, fun _ eg => ⟨o, eg, r⟩⟩
theorem led_list {ax : Addr} {its : List Value} {n : Nat} (N : News h₀ L h news) (hm : (ax, cellsO its n) ∈ news) : h.IsList ax its.toArray := ⟨_, (N _ hm).1, rfl, _, rfl⟩
end
end Mine
end

section
set_option Elab.async false
namespace Mine
theorem bqt : ∀ b : Bool, (b == true) = b := by decide
theorem bqf : ∀ b : Bool, (b == false) = !b := by decide
theorem add_eq {a b c d : Int} (h : a = c) (k : b = d) : a + b = c + d := by rw [h, k]
/-- for all, or for one -/
noncomputable def allb (b : Bool) (l : List (List Int)) (p : List Int → Bool) : Bool := bif b then l.all p else l.any p
/-- the rows' spec -/
noncomputable def grow (es : List (List Int)) (xs : List Int) : List (List Int) := es.flatMap fun e => xs.map fun a => e ++ [a]
noncomputable def rowsE (S : Int → List Int) (rs : List Int) (es : List (List Int)) : List (List Int) := rs.foldl (fun es r => grow es (S r)) es
/-- what a formula says: S the sets, e the atoms of x0 .. -/
noncomputable def hold (S : Int → List Int) : Form → List Int → Bool
  | .tf b, _ => b
  | .some r, _ => !(S r).isEmpty
  | .inn k r, e => (S r).any (· == e.getD k 7)
  | .not f, e => !hold S f e
  | .con0 b, _ => b
  | .con1 _ f, e => hold S f e
  | .con2 b f g, e => bif b then hold S f e && hold S g e else hold S f e || hold S g e
  | .imp f g, e => !hold S f e || hold S g e
  | .iff f g, e => hold S f e == hold S g e
  | .qu b _ rs f, e => allb b (rowsE S rs [[]]) fun e' => hold S f (e ++ e')
theorem allb_const {b : Bool} {l : List (List Int)} {p : List Int → Bool} (h : ∀ e ∈ l, p e = b) : allb b l p = b := by
  cases b
  · exact List.any_eq_false.mpr fun e he => by rw [h e he]; exact Bool.false_ne_true
  · exact List.all_eq_true.mpr h
theorem allb_hit {b : Bool} {l : List (List Int)} {p : List Int → Bool} {e : List Int} (he : e ∈ l) (h : p e = !b) : allb b l p = !b := by
  cases b
  · exact List.any_eq_true.mpr ⟨e, he, h⟩
  · exact List.all_eq_false.mpr ⟨e, he, by rw [h]; exact Bool.false_ne_true⟩
theorem allb_nf (b w : Bool) (p q : List Int → Bool) (h : ∀ e, q e = (p e == w)) : ∀ l : List (List Int), allb (b == w) l q = (allb b l p == w)
  | [] => by cases b <;> cases w <;> rfl
  | e :: l => by
    have ih := allb_nf b w p q h l
    have s : ∀ c (r : List Int → Bool), allb c (e :: l) r = (bif c then r e && allb c l r else r e || allb c l r) := fun c r => by cases c <;> rfl
    rw [s, s, ih, h]
    exact (by decide : ∀ b w x y : Bool, (bif b == w then (x == w) && (y == w) else (x == w) || (y == w)) = ((bif b then x && y else x || y) == w)) b w (p e) (allb b l p)
theorem hold_lit (S : Int → List Int) (f : Form) (w : Bool) (e : List Int) : hold S (lit w f) e = (hold S f e == w) := by
  cases w
  · exact (bqf _).symm
  · exact (bqt _).symm
theorem hold_nf (S : Int → List Int) : ∀ (f : Form) (w : Bool) (e : List Int), hold S (nf f w) e = (hold S f e == w)
  | .tf _, _, _ | .con0 _, _, _ => rfl
  | .some _, w, e | .inn _ _, w, e => hold_lit S _ w e
  | .not f, w, e => (hold_nf S f (!w) e).trans ((by decide : ∀ x w : Bool, (x == !w) = ((!x) == w)) _ w)
  | .con1 _ f, w, e => hold_nf S f w e
  | .con2 b f g, w, e => by
    show (bif b == w then hold S (nf f w) e && hold S (nf g w) e else hold S (nf f w) e || hold S (nf g w) e) = _
    rw [hold_nf S f, hold_nf S g]
    exact (by decide : ∀ b w x y : Bool, (bif b == w then (x == w) && (y == w) else (x == w) || (y == w)) = ((bif b then x && y else x || y) == w)) b w _ _
  | .imp f g, w, e => by
    show (bif !w then hold S (nf f (!w)) e && hold S (nf g w) e else hold S (nf f (!w)) e || hold S (nf g w) e) = _
    rw [hold_nf S f, hold_nf S g]
    exact (by decide : ∀ w x y : Bool, (bif !w then (x == !w) && (y == w) else (x == !w) || (y == w)) = ((!x || y) == w)) w _ _
  | .iff f g, w, e => by
    show ((hold S (nf f (!w)) e || hold S (nf g true) e) && (hold S (nf f w) e || hold S (nf g false) e)) = _
    rw [hold_nf S f, hold_nf S f, hold_nf S g, hold_nf S g]
    exact (by decide : ∀ w x y : Bool, (((x == !w) || (y == true)) && ((x == w) || (y == false))) = ((x == y) == w)) w _ _
  | .qu b _ rs f, w, e => allb_nf b w _ _ (fun e' => hold_nf S f w (e ++ e')) _
theorem plain_lit {f : Form} (h : isAtom f = true) (k : plain f = true) (w : Bool) : plain (lit w f) = true := by
  cases w
  · exact h
  · exact k
theorem plain_nf : ∀ (f : Form) (w : Bool), plain (nf f w) = true
  | .tf _, _ | .con0 _, _ => rfl
  | .some _, w | .inn _ _, w => plain_lit rfl rfl w
  | .not f, w => plain_nf f (!w)
  | .con1 _ f, w | .qu _ _ _ f, w => plain_nf f w
  | .con2 _ f g, w => Bool.and_eq_true_iff.mpr ⟨plain_nf f w, plain_nf g w⟩
  | .imp f g, w => Bool.and_eq_true_iff.mpr ⟨plain_nf f _, plain_nf g w⟩
  | .iff f g, w => Bool.and_eq_true_iff.mpr ⟨Bool.and_eq_true_iff.mpr ⟨plain_nf f _, plain_nf g _⟩, Bool.and_eq_true_iff.mpr ⟨plain_nf f _, plain_nf g _⟩⟩
theorem many_lit (f : Form) (w : Bool) : many (lit w f) = many f := by cases w <;> rfl
theorem many_nf : ∀ (f : Form) (w : Bool), many (nf f w) = many f
  | .tf _, _ | .con0 _, _ => rfl
  | .some _, w | .inn _ _, w => many_lit _ w
  | .not f, w => many_nf f (!w)
  | .con1 _ f, w | .qu _ _ _ f, w => many_nf f w
  | .con2 _ f g, w => add_eq (many_nf f w) (many_nf g w)
  | .imp f g, w => add_eq (many_nf f _) (many_nf g w)
  | .iff f g, w => by
    show many (nf f (!w)) + many (nf g true) + (many (nf f w) + many (nf g false)) = 2 * (many f + many g)
    rw [many_nf f, many_nf f, many_nf g, many_nf g, Int.two_mul]
theorem atom_nf : ∀ {f : Form}, isAtom f = true → nf f false = .not f ∧ nf f true = f
  | .some _, _ | .inn _ _, _ => ⟨rfl, rfl⟩
theorem nf_true : ∀ (f : Form), plain f = true → nf f true = f
  | .tf b, _ => congrArg Form.tf (bqt b)
  | .con0 b, _ => congrArg Form.con0 (bqt b)
  | .some _, _ | .inn _ _, _ => rfl
  | .not _, h => (atom_nf h).1
  | .con1 b f, h => congr (congrArg Form.con1 (bqt b)) (nf_true f h)
  | .con2 b f g, h => congr (congr (congrArg Form.con2 (bqt b)) (nf_true f (Bool.and_eq_true_iff.mp h).1)) (nf_true g (Bool.and_eq_true_iff.mp h).2)
  | .qu b k rs f, h => by
    show Form.qu (b == true) k rs (nf f true) = _
    rw [bqt, nf_true f h]
theorem nf_false : ∀ (f : Form), plain f = true → nf f false = contr f
  | .tf b, _ => congrArg Form.tf (bqf b)
  | .con0 b, _ => congrArg Form.con0 (bqf b)
  | .some _, _ | .inn _ _, _ => rfl
  | .not _, h => (atom_nf h).2
  | .con1 b f, h => congr (congrArg Form.con1 (bqf b)) (nf_false f h)
  | .con2 b f g, h => congr (congr (congrArg Form.con2 (bqf b)) (nf_false f (Bool.and_eq_true_iff.mp h).1)) (nf_false g (Bool.and_eq_true_iff.mp h).2)
  | .qu b k rs f, h => by
    show Form.qu (b == false) k rs (nf f false) = _
    rw [bqf, nf_false f h]; rfl
theorem sc_lit {f : Form} {n : Nat} (w : Bool) (h : sc f n) : sc (lit w f) n := by cases w <;> exact h
theorem sc_nf : ∀ (f : Form) (n : Nat) (w : Bool), sc f n → sc (nf f w) n
  | .tf _, _, _, h | .con0 _, _, _, h => h
  | .some _, _, w, h | .inn _ _, _, w, h => sc_lit w h
  | .not f, n, _, h | .con1 _ f, n, _, h => sc_nf f n _ h
  | .con2 _ f g, n, _, h | .imp f g, n, _, h => ⟨sc_nf f n _ h.1, sc_nf g n _ h.2⟩
  | .iff f g, n, _, h => ⟨⟨sc_nf f n _ h.1, sc_nf g n _ h.2⟩, ⟨sc_nf f n _ h.1, sc_nf g n _ h.2⟩⟩
  | .qu _ _ _ f, _, _, h => ⟨h.1, h.2.1, h.2.2.1, sc_nf f _ _ h.2.2.2⟩
theorem max_two {a b a' b' : Nat} (h : a' ≤ 2 * a) (k : b' ≤ 2 * b) : max a' b' ≤ 2 * max a b := by lia
theorem size_pos : ∀ f : Form, 1 ≤ f.size
  | .tf _ | .some _ | .inn _ _ | .con0 _ => Nat.le_refl _
  | .not _ | .con1 _ _ | .qu _ _ _ _ | .con2 _ _ _ | .imp _ _ | .iff _ _ => Nat.succ_pos _
theorem size_lit {f : Form} (h : f.size = 1) (w : Bool) : (lit w f).size ≤ 2 * f.size := by
  cases w
  · exact Nat.le_of_eq (by show f.size + 1 = _; rw [h])
  · show f.size ≤ _; lia
theorem size_nf : ∀ (f : Form) (w : Bool), (nf f w).size ≤ 2 * f.size
  | .tf _, _ | .con0 _, _ => Nat.le_succ 1
  | .some _, w | .inn _ _, w => size_lit rfl w
  | .not f, w => Nat.le_trans (size_nf f _) (Nat.mul_le_mul_left 2 (Nat.le_succ _))
  | .con1 _ f, w | .qu _ _ _ f, w => Nat.le_trans (Nat.succ_le_succ (size_nf f w)) (Nat.le_succ _)
  | .con2 _ f g, w | .imp f g, w => Nat.le_trans (Nat.succ_le_succ (max_two (size_nf f _) (size_nf g _))) (Nat.le_succ _)
  | .iff f g, w => Nat.succ_le_succ (Nat.max_le.mpr ⟨Nat.succ_le_succ (max_two (size_nf f _) (size_nf g _)), Nat.succ_le_succ (max_two (size_nf f _) (size_nf g _))⟩)
/-- at most so many ways -/
noncomputable def ways : Form → Int
  | .tf _ | .some _ | .inn _ _ | .con0 _ => 0
  | .not f | .con1 _ f => ways f
  | .con2 _ f g | .imp f g | .iff f g => ways f + ways g
  | .qu _ _ _ f => 6 + 4 * ways f
theorem ways_0 : ∀ f, 0 ≤ ways f
  | .tf _ | .some _ | .inn _ _ | .con0 _ => Int.le_refl 0
  | .not f | .con1 _ f => ways_0 f
  | .con2 _ f g | .imp f g | .iff f g => Int.add_nonneg (ways_0 f) (ways_0 g)
  | .qu _ _ _ f => by have := ways_0 f; show 0 ≤ 6 + 4 * ways f; lia
noncomputable def capW : Nat → Int
  | 0 => 0
  | d + 1 => 6 + 4 * capW d
theorem ways_lit {f : Form} (w : Bool) : ways (lit w f) = ways f := by cases w <;> rfl
theorem cap_one {x c : Int} (h0 : 0 ≤ x) (h : x ≤ c) : x ≤ 6 + 4 * c := by lia
theorem cap_two {x y c : Int} (h0 : 0 ≤ x) (h1 : 0 ≤ y) (h : x ≤ c) (k : y ≤ c) : x + y ≤ 6 + 4 * c := by lia
theorem cap_four {x y z u c : Int} (h : x ≤ c) (k : y ≤ c) (i : z ≤ c) (j : u ≤ c) : x + y + (z + u) ≤ 6 + 4 * c := by lia
theorem ways_nf : ∀ (f : Form) (d : Nat) (w : Bool), f.size ≤ d → ways (nf f w) ≤ capW d
  | f, 0, _, h => absurd (Nat.le_trans (size_pos f) h) (by decide)
  | .tf _, d + 1, _, _ | .con0 _, d + 1, _, _ => cap_one (Int.le_refl 0) (capW_0 d)
  | .some _, d + 1, w, _ | .inn _ _, d + 1, w, _ => by rw [nf, ways_lit]; exact cap_one (Int.le_refl 0) (capW_0 d)
  | .not f, d + 1, _, h | .con1 _ f, d + 1, _, h => cap_one (ways_0 _) (ways_nf f d _ (Nat.le_of_succ_le_succ h))
  | .qu _ _ _ f, d + 1, w, h => by
    have := ways_nf f d w (Nat.le_of_succ_le_succ h)
    show 6 + 4 * ways (nf f w) ≤ 6 + 4 * capW d
    lia
  | .con2 _ f g, d + 1, _, h | .imp f g, d + 1, _, h => cap_two (ways_0 _) (ways_0 _) (ways_nf f d _ (Nat.le_trans (Nat.le_max_left _ _) (Nat.le_of_succ_le_succ h))) (ways_nf g d _ (Nat.le_trans (Nat.le_max_right _ _) (Nat.le_of_succ_le_succ h)))
  | .iff f g, d + 1, _, h => cap_four (ways_nf f d _ (Nat.le_trans (Nat.le_max_left _ _) (Nat.le_of_succ_le_succ h))) (ways_nf g d _ (Nat.le_trans (Nat.le_max_right _ _) (Nat.le_of_succ_le_succ h))) (ways_nf f d _ (Nat.le_trans (Nat.le_max_left _ _) (Nat.le_of_succ_le_succ h))) (ways_nf g d _ (Nat.le_trans (Nat.le_max_right _ _) (Nat.le_of_succ_le_succ h)))
where capW_0 : ∀ d, 0 ≤ capW d
  | 0 => Int.le_refl 0
  | d + 1 => by have := capW_0 d; show 0 ≤ 6 + 4 * capW d; lia
/-- all that the law asks of a drawn formula -/
theorem drawn_facts {F : Form} (hs : F.size ≤ 4) (h : sc F 0) (w : Bool) : (nf F w).size ≤ 8 ∧ sc (nf F w) 0 ∧ plain (nf F w) = true ∧ ways (nf F w) ≤ 510 ∧ 0 ≤ ways (nf F w) ∧ nf (nf F w) true = nf F w ∧ nf (nf F w) false = contr (nf F w) ∧ (contr (nf F w)).size ≤ 16 ∧ sc (contr (nf F w)) 0 := by
  have hp := plain_nf F w
  have hc := nf_false _ hp
  have s := size_nf F w
  refine ⟨by lia, sc_nf F 0 w h, hp, ways_nf F 4 w hs, ways_0 _, nf_true _ hp, hc, ?_, ?_⟩
  · rw [← hc]; have := size_nf (nf F w) false; lia
  · rw [← hc]; exact sc_nf _ 0 _ (sc_nf F 0 w h)
end Mine
end

section
open PySem PySem.W PyProof.Rows PySem.Spec PySem.Calls
set_option Elab.async false
set_option maxRecDepth 100000
namespace Mine
/-- x is at most n steps and m costs above k -/
noncomputable def Up (k C x : Int) (n m : Nat) : Prop := x ≤ k + n + m * C
section
variable {k C x y : Int} {n m : Nat}
theorem up_base (hC : 3 ≤ C) : Up k C k n m := by
  have : (0 : Int) ≤ m * C := Int.mul_nonneg (Int.natCast_nonneg m) (by lia)
  unfold Up; lia
theorem up_one (h : Up k C x n m) : Up k C (x + 1) (n + 1) m := by unfold Up at *; lia
theorem up_call (e : y ≤ x + C) (h : Up k C x n m) : Up k C y n (m + 1) := by
  unfold Up at *
  have : ((m + 1 : Nat) : Int) * C = m * C + C := by rw [Int.natCast_add, Int.add_mul]; lia
  lia
theorem up_conv (hC : 3 ≤ C) (h : Up k C x (n + 3) m) : Up k C x n (m + 1) := by
  unfold Up at *
  have : ((m + 1 : Nat) : Int) * C = m * C + C := by rw [Int.natCast_add, Int.add_mul]; lia
  lia
theorem up_A (h : k + (3 + 2 * C) ≤ 1000) (hC : 3 ≤ C) (u : Up k C x 8 0) : x + 1 ≤ 1000 := by unfold Up at u; lia
theorem up_B (h : k + (3 + 2 * C) ≤ 1000) (u : Up k C x 3 1) : x + C ≤ 1000 := by unfold Up at u; lia
theorem up_C (u : Up k C x 3 2) : x ≤ k + (3 + 2 * C) := by unfold Up at u; lia
theorem nn1 (h : 0 ≤ x) : 0 ≤ x + 1 := Int.le_trans h (Int.le_add_of_nonneg_right (by decide))
end
theorem nd0 {n d : Nat} (h : n + 2 * (d + 1) ≤ 6) : n + 2 * d ≤ 6 := by lia
theorem nd1 {n d : Nat} (h : n + 2 * (d + 1) ≤ 6) : n + 1 + 2 * d ≤ 6 := by lia
theorem nd2 {n d : Nat} (h : n + 2 * (d + 1) ≤ 6) : n + 2 + 2 * d ≤ 6 := by lia
theorem nd6 {n d : Nat} (h : n + 2 * (d + 1) ≤ 6) : n ≤ 6 := by lia
theorem nd7 {n d : Nat} (h : n + 2 * (d + 1) ≤ 6) (i : Nat) (hi : i ≤ 3) : n + i ≤ 7 := by lia
theorem dm1 (d : Nat) : ((d + 1 : Nat) : Int) - 1 = d := by lia
theorem lt_ne {y j : Int} (h : 4 ≤ y) (hj : j < 4) : (y == j) = false := by simp; lia
theorem max_s {a b c : Nat} (h : a ≤ c) (k : b ≤ c) : max a b + 1 ≤ c + 1 := Nat.succ_le_succ (Nat.max_le.mpr ⟨h, k⟩)
theorem way_7 {x y : Int} {b : Bool} {P : Prop} (h0 : 0 ≤ x) (h1 : x < 9) (hb : y = bif b then 3 else x)
    (a0 : y = 0 → P) (a1 : y = 1 → P) (a2 : y = 2 → P) (a3 : y = 3 → P) (a4 : 4 ≤ y → decide (y < 6) = true → P) (a6 : 4 ≤ y → decide (y < 6) = false → 0 ≤ y → y < 8 → P) (a8 : y = 8 → P) : P := by
  by_cases e0 : y = 0
  · exact a0 e0
  by_cases e1 : y = 1
  · exact a1 e1
  by_cases e2 : y = 2
  · exact a2 e2
  by_cases e3 : y = 3
  · exact a3 e3
  by_cases e8 : y = 8
  · exact a8 e8
  have h9 : 4 ≤ y ∧ y < 8 := by
    cases b
    · simp only [cond_false] at hb; lia
    · simp only [cond_true] at hb; lia
  by_cases e6 : y < 6
  · exact a4 h9.1 (by simp [e6])
  · exact a6 h9.1 (by simp [e6]) (by lia) h9.2
section
variable {prog : Program} {w : World} {A : Around} {h₀ : Heap} {L : Addr} {m : Str → Option Value} {news : Led} {env : Env}
/-- written ints -/
noncomputable def intLits : List PySem.Expr → Option (List Int)
  | [] => some []
  | .Constant (.int x) _ _ :: r => (intLits r).map (x :: ·)
  | _ => none
theorem ints_spliced {s : Shared} {E : Value → Shared → Prop} {pos : Pos} : ∀ {elts : List PySem.Expr} {ss : List Int} {Q : List Value → Shared → Prop} {tk : Nat}, intLits elts = some ss → (∀ vs tk, IntsAre vs ss → Q vs { s with toks := tk }) →
    wpAny (model prog w) A (spliced (backTo pos (starEach elts env))) Q E { s with toks := tk } := by
  intro elts
  induction elts with
  | nil => intro ss Q tk h k; obtain rfl : [] = ss := Option.some.inj h; exact args_nil (k _ _ .nil)
  | cons e r ih =>
    intro ss Q tk h k
    unfold intLits at h
    split at h
    · rename_i hq; cases hq
    · rename_i x c p r' hq
      cases hq
      obtain ⟨ys, hy, rfl⟩ := Option.map_eq_some_iff.mp h
      exact args_cons (wpAny_Constant_int (ih hy fun vs tk hs => k _ _ (.cons _ _ hs)))
    · cases h
theorem tst_ini {e : PySem.Expr} {x : Int} {ss : List Int} {t : Tok} {elts : List PySem.Expr} {k : Nat} {p pos : Pos} (he : Val prog w A h₀ L m news env e (.int x t)) (hl : intLits elts = some ss) (hn : ss.length ≤ 20) :
    Tst prog w A h₀ L m news env (.Compare e [.In] [.Tuple elts k p] pos) (ss.any (· == x)) := fun Q E s F N q =>
  wpAny_isTrue_Compare1 (he _ _ s F N fun tk1 => Tuple_ (ints_spliced (s := { s with toks := tk1 }) hl fun vs tk hs =>
    newTuple_N F N (fun h2 F2 N2 => in_tuple_ints (ns := ss) (News.isTup N2 (.head _)) (by simpa using hs) (wpAny_truthy_bool (q _ _ F2 fun p hp => N2 p (.tail _ hp))))
      (by have : 20 ≤ sizeLine := by decide +kernel
          have := hs.length
          lia))) (by rfl)
theorem tst_eqi {e : PySem.Expr} {x j : Int} {t : Tok} {k : Nat} {p pos : Pos} {b : Bool} (he : Val prog w A h₀ L m news env e (.int x t)) (hb : (x == j) = b) :
    Tst prog w A h₀ L m news env (.Compare e [.Eq] [.Constant (.int j) k p] pos) b := fun _ _ s F N q =>
  wpAny_isTrue_Compare1 (he _ _ s F N fun _ => wpAny_Constant_int (eq_int (wpAny_truthy_bool (by rw [hb]; exact q _ _ F N)))) (by rfl)
theorem tst_lti {e : PySem.Expr} {x j : Int} {t : Tok} {k : Nat} {p pos : Pos} {b : Bool} (he : Val prog w A h₀ L m news env e (.int x t)) (hb : decide (x < j) = b) :
    Tst prog w A h₀ L m news env (.Compare e [.Lt] [.Constant (.int j) k p] pos) b := fun _ _ s F N q =>
  wpAny_isTrue_Compare1 (he _ _ s F N fun _ => wpAny_Constant_int (lt_int (wpAny_truthy_bool (by rw [hb]; exact q _ _ F N)))) (by rfl)
theorem tst_and {a b : PySem.Expr} {pos : Pos} {c d : Bool} (ha : Tst prog w A h₀ L m news env a c) (hb : Tst prog w A h₀ L m news env b d) : Tst prog w A h₀ L m news env (.BoolOp .And [a, b] pos) (c && d) := fun _ _ s F N q =>
  isTrue_and (ha _ _ s F N fun h1 tk1 F1 N1 => by
    cases c
    · exact q h1 tk1 F1 N1
    · exact isTrue_and (hb _ _ _ F1 N1 fun h2 tk2 F2 N2 => by
        cases d
        · exact q h2 tk2 F2 N2
        · exact isTrue_and_nil (q h2 tk2 F2 N2)))
theorem val_key {e : PySem.Expr} {fd : Addr} {o : Obj} {kvs : List (Str × Value)} {key : Str} {k : Nat} {p pos : Pos} {v : Value} (he : Val prog w A h₀ L m news env e (.ref fd)) (hm : (fd, o) ∈ news) (ho : o.IsDictOf (strKind prog w) kvs) (hl : valueAt kvs key = some v)
    (hg : ∀ r, letTemporaryGo e (.ref fd) r = pure ()) : Val prog w A h₀ L m news env (.Subscript e (.Constant (.str key) k p) pos) v := fun _ _ s F N q =>
  Subscript_ (he _ _ s F N fun _ => Constant_str (kda_item N hm ho (strKind_is _ _ _ _) hl (q _) (by with_unfolding_all rfl) hg))
/-- a local is set anew where a test holds -/
theorem s_set {cn : Str} {cs : Scope} {a : Addr} {ccd : Value} {cl : List (Str × Addr)} {x : Str} {y j : Int} {t0 : Tok} {b : Bool} {m0 : Str → Option Value} {test : PySem.Expr} {rest : List Stmt} {k : Nat} {p p' pos pos' : Pos} {hp : Heap} {gs : Array GenState} {dr : Drawn} {k0 : Nat} {os : OsState} {Q : Flow → Shared → Prop} {E : Value → Shared → Prop}
    (he : env = envX cn cs L a ccd cl) (F : Fr h₀ L hp (fun z => if z = x then some (.int y t0) else m0 z)) (N : News h₀ L hp news) (t : Tst prog w A h₀ L (fun z => if z = x then some (.int y t0) else m0 z) news env test b)
    (hk : cs.kind = .function) (hx : (envX cn cs L a ccd cl).kindOf x = some .local)
    (h : ∀ y' t' h' tk, y' = (bif b then j else y) → Fr h₀ L h' (fun z => if z = x then some (.int y' t') else m0 z) → News h₀ L h' news → wpAny (model prog w) A (execs rest env) Q E ⟨h', gs, dr, tk, os⟩) :
    wpAny (model prog w) A (execs (.If test [.Assign [.Name x p] (.Constant (.int j) k p') pos'] [] pos :: rest) env) Q E ⟨hp, gs, dr, k0, os⟩ := by
  subst he
  refine wpAny_execs_cons (wpAny_If (t _ _ _ F N fun h' tk F' N' => ?_))
  cases b
  · exact wpAny_execs_nil (h y t0 h' tk rfl F' N')
  · refine wpAny_execs_cons (wpAny_Assign_Name (wpAny_Constant_int (storeX_L F' N' (fun h2 F2 N2 => wpAny_execs_nil (h j tk h2 _ rfl ?_ N2)) hk hx)) (by rfl))
    have e : (fun z => if z = x then some (Value.int j tk) else (if z = x then some (.int y t0) else m0 z)) = fun z => if z = x then some (.int j tk) else m0 z := funext fun z => by by_cases hz : z = x <;> simp [hz]
    rw [← e]; exact F2
theorem div8 {y : Int} {t u : Tok} {s : Shared} {Q E : Value → Shared → Prop} (h0 : 0 ≤ y) (h8 : y < 8) (h : Q (.int 0 s.toks) { s with toks := s.toks + 1 }) : wpAny (model prog w) A (binaryOp .FloorDiv (.int y t) (.int 8 u)) Q E s := by
  refine floordiv_int (by decide) ?_ (Or.inl (PyProof.noPylong_small (by lia)))
  have e : y.fdiv 8 = 0 := by rw [Int.fdiv_eq_ediv_of_nonneg _ (by decide)]; exact Int.ediv_eq_zero_of_lt h0 h8
  rw [e]; exact h
end
end Mine
end

section
open PySem PySem.W PyProof.Rows PySem.Spec PySem.Calls
set_option Elab.async false
set_option maxRecDepth 100000
namespace Mine
section
variable {prog : Program} {w : World} {A : Around} {E : Value → Shared → Prop} {s : Shared} {h₀ : Heap} {L : Addr} {m : Str → Option Value} {env : Env}
/-- a tested comprehension's source: a tuple of the ledger -/
noncomputable def TupSrcT (prog : Program) (w : World) (A : Around) (h₀ : Heap) (L : Addr) (m : Str → Option Value) (env : Env) (ct elt : PySem.Expr) (x : Str) (scope : Scope) (cl : List (Str × Addr)) (Fin : Shared → List Value → Led → Prop) (xv : Value) (s₁ : Shared) : Prop :=
  ∃ ax its n news, xv = .ref ax ∧ A.handled = none ∧ Fr h₀ L s₁.heap m ∧ News h₀ L s₁.heap news ∧ (ax, tupO its n) ∈ news ∧ its.length ≤ sizeLine ∧
    ∀ s₂ : Shared, (∃ h, s₂ = { s₁ with heap := h }) → LCt.CompRestT prog w A h₀ L m env ct elt x scope cl s₂ (fun nw => (ax, tupO its n) ∈ nw) (fun i v => its.toArray[i]? = some v) (Fin s₂) its.toArray.size 0 [] news
theorem TupSrcT.ledger {ct elt : PySem.Expr} {x : Str} {scope : Scope} {cl : List (Str × Addr)} {Fin : Shared → List Value → Led → Prop} {ax : Addr} {its : List Value} {n : Nat} {news : Led} {s₁ : Shared}
    (hh : A.handled = none) (F : Fr h₀ L s₁.heap m) (N : News h₀ L s₁.heap news) (hm : (ax, tupO its n) ∈ news) (hsz : its.length ≤ sizeLine)
    (h : ∀ g, LCt.CompRestT prog w A h₀ L m env ct elt x scope cl { s₁ with heap := g } (fun nw => (ax, tupO its n) ∈ nw) (fun i v => its.toArray[i]? = some v) (Fin { s₁ with heap := g }) its.toArray.size 0 [] news) :
    TupSrcT prog w A h₀ L m env ct elt x scope cl Fin (.ref ax) s₁ := ⟨ax, its, n, news, rfl, hh, F, N, hm, hsz, fun _ ⟨g, e⟩ => e ▸ h g⟩
theorem lct_tuple {ct elt iter : PySem.Expr} {x : Str} {px : Pos} {scope : Scope} {cl : List (Str × Addr)} {pos : Pos} {Q : Value → Shared → Prop} (_F₀ : Fr h₀ L s.heap m)
    (hclos : closureFor scope env = pure cl) (hcell : ∀ y ∈ scope.names, y.2 ≠ .cell) (hkind : scope.kind = .function)
    (hnames : ∀ y ∈ scope.names, y.2 = .local → scope.names.lookup y.1 = some .local) (hx : scope.names.lookup x = some .local)
    (h : wpAny (model prog w) A (eval iter env) (TupSrcT prog w A h₀ L m env ct elt x scope cl (fun s₂ => LCg.FinE h₀ L m s₂ Q)) E s)
    (hs : ∀ x, foldedSetIterable iter env x = pure x) :
    wpAny (model prog w) A (eval (.ListComp elt [⟨.Name x px, iter, [ct], 0⟩] scope pos) env) Q E s := by
  rw [eval_ListComp]
  refine wpAny_comprehension_free (use := none) rfl hs hclos hkind hnames (wpAny_mono h (fun xv s₁ h₁ => ?_) fun _ _ e => e)
  obtain ⟨ax, its, n, news, rfl, hh, F, N, hm, hsz, R⟩ := h₁
  have hl := tup_is N hm
  have hlt : ax < s₁.heap.objs.size := Heap.lt_size (N _ hm).1
  refine wpAny_pyIter_tuple hl ?_
  have up : ∀ b o, s₁.heap.get? b = some o → (s₁.heap.push { cls := .type "tuple_iterator", data := .fields #[.ref ax, .int 0 0] }).get? b = some o := fun b o e => Heap.get?_push_of_some _ e
  have hsz' : its.toArray.size ≤ sizeLine := by rw [List.size_toArray]; exact hsz
  refine LCt.block_T (Walks.tuple hh s₁.heap.objs.size ax (Nat.ne_of_lt hlt) its.toArray) hsz' (fun i h st => by obtain ⟨o, e, _⟩ := st.1; exact ⟨o, e⟩)
    (S := fun nw => (ax, tupO its n) ∈ nw)
    (fun i h h' o nw st e e' k N' S => ⟨by obtain ⟨o', q, r⟩ := st.1; rw [e] at q; cases q; exact ⟨o, e', r⟩, tup_is N' S⟩) hcell hkind hx
    ⟨⟨_, Heap.get?_push_size _ rfl, rfl, rfl⟩, ⟨_, up _ _ (N _ hm).1, rfl, _, rfl⟩⟩ (fun b hb => ?_)
    (F.keeps up) (N.grown up) (Nat.ne_of_lt F.ns.lt) (next_is_new F) (fun p hp => Nat.ne_of_lt (Heap.lt_size (N p hp).1)) hm (R _ ⟨_, rfl⟩) ?_
  · show b < (s₁.heap.push _).objs.size
    rw [Heap.size_push]
    rcases List.mem_cons.mp hb with rfl | hb
    · exact Nat.lt_succ_self _
    · rw [List.mem_singleton.mp hb]; exact Nat.lt_succ_of_lt hlt
  · intro D C h tk m' ys news' F' N' o1 hn hC₀ hD₀ hCL hDL hCD offC fin
    refine ⟨m', hn, fun h'' hs'' => fin D h'' tk (F'.change hs'' hCL hC₀) (fun p hp => ?_) o1⟩
    refine ⟨hs''.extBut _ _ ?_ (N' p hp).1, (N' p hp).2⟩
    rcases List.mem_cons.mp hp with rfl | hp
    · exact Ne.symm hCD
    · exact offC p hp
theorem eq_nil {a b : Addr} {k kb : Nat} {news : Led} {Q : Value → Shared → Prop} (N : News h₀ L s.heap news) (ha : (a, cellsO [] k) ∈ news) (hb : (b, cellsO [] kb) ∈ news) (hu : A.units + 64 < cLine) (h : Q (.bool true) s) :
    wpAny (model prog w) A (compareOp .Eq (.ref a) (.ref b)) Q E s := by
  refine eq_dataH (reads_list_at (N.get ha) rfl rfl (by simpa using ReadsAll.nil)) (reads_list_at (N.get hb) rfl rfl (by simpa using ReadsAll.nil)) (by decide +kernel) (by decide +kernel) hu ?_
  exact h
end
end Mine
end

section
open PySem PySem.W PyProof.Rows PySem.Spec PySem.Calls PyProof.Rows.LCg
set_option Elab.async false
set_option maxRecDepth 100000
namespace Mine
noncomputable abbrev two (elt : PySem.Expr) (x y : Str) (px py : Pos) (it1 it2 : PySem.Expr) (scope : Scope) (pos : Pos) : PySem.Expr :=
  .ListComp elt [⟨.Name x px, it1, [], 0⟩, ⟨.Name y py, it2, [], 0⟩] scope pos
theorem two_turn0 (elt : PySem.Expr) (x y : Str) (px py : Pos) (it1 it2 : PySem.Expr) (scope : Scope) (pos : Pos) (it acc : Value) (env : Env) :
    compTurn (two elt x y px py it1 it2 scope pos) 0 it acc env = (do
      standAt it1.pos
      match ← pyNext it with
      | none => pure (.done .next)
      | some v =>
        letOwnedTupleGo (.Name x px) it v
        assign (.Name x px) env v
        let mut ok := true
        for c in ([] : List PySem.Expr) do
          if ok then ok ← isTrue c env (eval c env)
        if ok then
          let xv ← eval it2 env
          standAt it2.pos
          let xv ← foldedSetIterable it2 env xv
          let _ ← runOwn (.compStart (two elt x y px py it1 it2 scope pos) 1 (← holding [xv] (pyIter xv)) acc env) env
        again (.compLoop (two elt x y px py it1 it2 scope pos) 0 it acc env)) := by rfl
theorem two_turn1 (elt : PySem.Expr) (x y : Str) (px py : Pos) (it1 it2 : PySem.Expr) (scope : Scope) (pos : Pos) (it acc : Value) (env : Env) :
    compTurn (two elt x y px py it1 it2 scope pos) 1 it acc env = (do
      standAt it2.pos
      match ← pyNext it with
      | none => pure (.done .next)
      | some v =>
        letOwnedTupleGo (.Name y py) it v
        assign (.Name y py) env v
        let mut ok := true
        for c in ([] : List PySem.Expr) do
          if ok then ok ← isTrue c env (eval c env)
        if ok then
          (do let _ ← call (.builtin "list.append") [acc, ← eval elt env])
        again (.compLoop (two elt x y px py it1 it2 scope pos) 1 it acc env)) := by rfl
section
variable {prog : Program} {w : World} {A : Around} {R : Result → Shared → Prop} {s : Shared}
theorem two_loop1 {elt it1 it2 : PySem.Expr} {x y : Str} {px py : Pos} {scope : Scope} {pos : Pos} {it acc : Value} {env : Env} (I : Nat → Shared → Prop)
    (turn : ∀ n s, I n s → wpAny (model prog w) A (pyNext it) (fun r s₁ => match r with
      | none => R (.ok .next) s₁
      | some v => wpAny (model prog w) A (assign (.Name y py) env v) (fun _ s₂ => wpAny (model prog w) A (eval elt env) (fun x s₄ =>
              wpAny (model prog w) A (call (.builtin "list.append") [acc, x]) (fun _ s₅ => ∃ m, m < n ∧ I m s₅) (notedBy (model prog w) A env fun e s' => R (.error e) s') s₄) (notedBy (model prog w) A env fun e s' => R (.error e) s') s₂)
              (notedBy (model prog w) A env fun e s' => R (.error e) s') s₁) (notedBy (model prog w) A env fun e s' => R (.error e) s') s)
    (n : Nat) (h : I n s) :
    codeAny (model prog w) A (.compLoop (two elt x y px py it1 it2 scope pos) 1 it acc env) R s := by
  refine codeAny_loop rfl I (fun n s hI => ?_) n h
  show wpAny _ A ((compTurn (two elt x y px py it1 it2 scope pos) 1 it acc env).onRaise (fun x => do noteFrame x env; theTreesLotGoes x)) _ _ s
  refine wpAny_noted ?_
  rw [two_turn1]
  refine wpAny_bind (wpAny_standAt (wpAny_bind (wpAny_mono (turn n s hI) (fun r s₁ h₁ => ?_) fun _ _ h' => h')))
  cases r with
  | none => exact wpAny_pure h₁
  | some v =>
    refine wpAny_bind (wpAny_of_eq (show letOwnedTupleGo (.Name y py) it v = pure () from rfl) ?_)
    refine wpAny_bind (wpAny_mono h₁ (fun _ s₂ h₂ => wpAny_bind (wpAny_mono (wpAny_tests_nil (Q := fun ok s₃ => ok = true ∧ s₃ = s₂) ⟨rfl, rfl⟩) (fun ok s₃ h₃ => ?_) fun _ _ h' => h')) fun _ _ h' => h')
    obtain ⟨rfl, rfl⟩ := h₃
    exact wpAny_bind (wpAny_bind (wpAny_mono h₂ (fun x s₄ h₄ => wpAny_bind (wpAny_mono h₄ (fun _ s₅ h₅ => wpAny_pure (wpAny_pure ⟨rfl, h₅⟩)) fun _ _ h' => h')) fun _ _ h' => h'))
theorem two_start1 {elt it1 it2 : PySem.Expr} {x y : Str} {px py : Pos} {scope : Scope} {pos : Pos} {it acc : Value} {env : Env}
    (h0 : codeAny (model prog w) A (.compLoop (two elt x y px py it1 it2 scope pos) 1 it acc env) R s)
    (h : wpAny (model prog w) A (pyIter it) (fun it' s' => codeAny (model prog w) A (.compLoop (two elt x y px py it1 it2 scope pos) 1 it' acc env) R s')
      (notedBy (model prog w) A env fun x s' => R (.error x) s') s) :
    codeAny (model prog w) A (.compStart (two elt x y px py it1 it2 scope pos) 1 it acc env) R s := by
  refine codeAny_of_tree ?_
  show wpAny _ _ ((compStart (two elt x y px py it1 it2 scope pos) 1 it acc env).onRaise (fun x => do noteFrame x env; standAt theWindowsPlace)) _ _ s
  refine wpAny_notedAt ?_
  unfold compStart
  show wpAny _ _ (ask >>= _) _ _ s
  refine wpAny_bind (wpAny_askSetting (wpAny_ite ?_))
  split
  · first
      | exact wpAny_bind (wpAny_pure (wpAny_pure (And.intro rfl h0)))
      | exact wpAny_pure (And.intro rfl h0)
  · first
      | exact wpAny_bind (wpAny_rule (wpAny_bind (wpAny_standAt (wpAny_bind (wpAny_mono h (fun it' s' h' => wpAny_pure (And.intro rfl h')) fun _ _ x => x)))))
      | (refine wpAny_bind (wpAny_rule ?_); show wpAny _ _ (standAt it2.pos >>= _) _ _ s; exact wpAny_bind (wpAny_standAt (wpAny_bind (wpAny_mono h (fun it' s' h' => wpAny_pure (And.intro rfl h')) fun _ _ x => x))))
theorem two_loop0 {elt it1 it2 : PySem.Expr} {x y : Str} {px py : Pos} {scope : Scope} {pos : Pos} {it acc : Value} {env : Env} (hs : ∀ x, foldedSetIterable it2 env x = pure x) (I : Nat → Shared → Prop)
    (turn : ∀ n s, I n s → wpAny (model prog w) A (pyNext it) (fun r s₁ => match r with
      | none => R (.ok .next) s₁
      | some v => wpAny (model prog w) A (assign (.Name x px) env v) (fun _ s₂ => wpAny (model prog w) A (eval it2 env) (fun xv s₃ =>
              wpAny (model prog w) A (pyIter xv) (fun it' s₄ => codeAny (model prog w) A (.compStart (two elt x y px py it1 it2 scope pos) 1 it' acc env) (fun r s₅ => match r with
                | .ok _ => ∃ m, m < n ∧ I m s₅
                | .error e => cameBackBy (model prog w) A env (notedBy (model prog w) A env fun e s' => R (.error e) s') e s₅) s₄)
               (notedBy (model prog w) A env fun e s' => R (.error e) s') s₃) (notedBy (model prog w) A env fun e s' => R (.error e) s') s₂)
              (notedBy (model prog w) A env fun e s' => R (.error e) s') s₁) (notedBy (model prog w) A env fun e s' => R (.error e) s') s)
    (n : Nat) (h : I n s) :
    codeAny (model prog w) A (.compLoop (two elt x y px py it1 it2 scope pos) 0 it acc env) R s := by
  refine codeAny_loop rfl I (fun n s hI => ?_) n h
  show wpAny _ A ((compTurn (two elt x y px py it1 it2 scope pos) 0 it acc env).onRaise (fun x => do noteFrame x env; theTreesLotGoes x)) _ _ s
  refine wpAny_noted ?_
  rw [two_turn0]
  refine wpAny_bind (wpAny_standAt (wpAny_bind (wpAny_mono (turn n s hI) (fun r s₁ h₁ => ?_) fun _ _ h' => h')))
  cases r with
  | none => exact wpAny_pure h₁
  | some v =>
    refine wpAny_bind (wpAny_of_eq (show letOwnedTupleGo (.Name x px) it v = pure () from rfl) ?_)
    refine wpAny_bind (wpAny_mono h₁ (fun _ s₂ h₂ => wpAny_bind (wpAny_mono (wpAny_tests_nil (Q := fun ok s₃ => ok = true ∧ s₃ = s₂) ⟨rfl, rfl⟩) (fun ok s₃ h₃ => ?_) fun _ _ h' => h')) fun _ _ h' => h')
    obtain ⟨rfl, rfl⟩ := h₃
    refine wpAny_bind (wpAny_mono h₂ (fun xv s₄ h₄ => wpAny_bind (wpAny_standAt (wpAny_bind (wpAny_of_eq (hs xv) (wpAny_bind (wpAny_holding (wpAny_mono h₄ (fun it' s₅ h₅ => ?_) fun _ _ h' => h'))))))) fun _ _ h' => h')
    refine wpAny_bind (wpAny_runOwn (codeAny_mono h₅ (fun r s' hr => ?_)))
    cases r with
    | ok f => exact wpAny_pure ⟨rfl, hr⟩
    | error e => exact hr
end
/-- the inner source: a list of the ledger -/
inductive InnerSrc (h₀ : Heap) (L : Addr) (m : Str → Option Value) (s₁ : Shared) (I : Addr) (oI : Obj) (C : Addr) (oC : Obj) (D : Addr) (oD : Obj) (e : Addr × Obj) (rest : List Value → Led → Prop) : Value → Shared → Prop where
  | mk {ax2 n2 tk : Nat} {its2 : List Value} {h' : Heap} {news' : Led} : Fr h₀ L h' m → News h₀ L h' ((I, oI) :: (C, oC) :: (D, oD) :: news') → Off3 I C D news' → e ∈ news' → (ax2, cellsO its2 n2) ∈ news' → rest its2 news' → InnerSrc h₀ L m s₁ I oI C oC D oD e rest (.ref ax2) { s₁ with heap := h', toks := tk }
theorem inner_src {h₀ h' : Heap} {L I C D ax2 : Addr} {m : Str → Option Value} {s₁ : Shared} {oI oC oD : Obj} {e : Addr × Obj} {rest : List Value → Led → Prop} {tk n2 : Nat} {its2 : List Value} {all news' : Led}
    (F : Fr h₀ L h' m) (N : News h₀ L h' all) (i : (I, oI) ∈ all) (c : (C, oC) ∈ all) (d : (D, oD) ∈ all) (k : Cut I C D all news') (he : e ∈ news') (ha : (ax2, cellsO its2 n2) ∈ news') (_hl : its2.length ≤ 1000) (r : rest its2 news') :
    InnerSrc h₀ L m s₁ I oI C oC D oD e rest (.ref ax2) { s₁ with heap := h', toks := tk } :=
  .mk F (news_at N i (news_at N c (news_at N d (N.perm k.sub)))) k.off he ha r
/-- the element's end -/
inductive TwoEnd (h₀ : Heap) (L : Addr) (m : Str → Option Value) (s₁ : Shared) (I2 : Addr) (oI2 : Obj) (I : Addr) (oI : Obj) (C : Addr) (oC : Obj) (D : Addr) (oD : Obj) (e e2 : Addr × Obj) (rest : Value → Led → Prop) (y : Value) : Shared → Prop where
  | mk {tk : Nat} {h' : Heap} {news' : Led} : Fr h₀ L h' m → News h₀ L h' ((I2, oI2) :: (I, oI) :: (C, oC) :: (D, oD) :: news') → Off3 I C D news' → Off1 I2 news' → e ∈ news' → e2 ∈ news' → rest y news' → TwoEnd h₀ L m s₁ I2 oI2 I oI C oC D oD e e2 rest y { s₁ with heap := h', toks := tk }
theorem two_end {h₀ h' : Heap} {L I2 I C D : Addr} {m : Str → Option Value} {s₁ : Shared} {oI2 oI oC oD : Obj} {e e2 : Addr × Obj} {rest : Value → Led → Prop} {tk : Nat} {y : Value} {all l1 news' : Led}
    (F : Fr h₀ L h' m) (N : News h₀ L h' all) (i2 : (I2, oI2) ∈ all) (i : (I, oI) ∈ all) (c : (C, oC) ∈ all) (d : (D, oD) ∈ all) (k : Cut I C D all l1) (k1 : Cut1 I2 l1 news') (he : e ∈ news') (he2 : e2 ∈ news') (r : rest y news') :
    TwoEnd h₀ L m s₁ I2 oI2 I oI C oC D oD e e2 rest y { s₁ with heap := h', toks := tk } :=
  .mk F (news_at N i2 (news_at N i (news_at N c (news_at N d (N.perm fun p hp => k.sub _ (k1.sub _ hp))))))
    (Off3.of fun p hp => k.off.mem p (k1.sub _ hp)) k1.off he he2 r
section
variable {prog : Program} {w : World} {A : Around} {E : Value → Shared → Prop} {s : Shared} {h₀ : Heap} {L : Addr} {m : Str → Option Value} {env : Env}
/-- what is to be shown of a comprehension of two clauses over the list (ax, its) -/
structure TwoRest (prog : Program) (w : World) (A : Around) (h₀ : Heap) (L : Addr) (m : Str → Option Value) (env : Env) (elt it2 : PySem.Expr) (x y : Str) (scope : Scope) (cl : List (Str × Addr)) (s : Shared) (e : Addr × Obj) (its : List Value)
    (J : Nat → List Value → Led → Prop) (K : Nat → List Value → Nat → List Value → Led → Prop) (Fin : List Value → Led → Prop) (news : Led) : Prop where
  start : J 0 [] news
  outer : ∀ i v ys nw I oI C oC D m₂ h tk (E' : Value → Shared → Prop), its[i]? = some v → J i ys nw → e ∈ nw → NsObj oC m₂ → m₂ x = some v → Fr h₀ L h m → News h₀ L h ((I, oI) :: (C, oC) :: (D, lst ys) :: nw) → Off3 I C D nw → ((@Ne Nat I C) ∧ (@Ne Nat I D) ∧ (@Ne Nat C D)) →
    wpAny (model prog w) A (eval it2 (compEnvC scope cl C env)) (InnerSrc h₀ L m { s with heap := h, toks := tk } I oI C oC D (lst ys) e (fun its2 nw' => K i its2 0 ys nw')) E' { s with heap := h, toks := tk }
  inner : ∀ i v its2 j u ys nw e2 I2 oI2 I oI C oC D m₂ h tk (E' : Value → Shared → Prop), its[i]? = some v → its2[j]? = some u → K i its2 j ys nw → e ∈ nw → e2 ∈ nw → NsObj oC m₂ → m₂ x = some v → m₂ y = some u → Fr h₀ L h m →
    News h₀ L h ((I2, oI2) :: (I, oI) :: (C, oC) :: (D, lst ys) :: nw) → Off3 I C D nw → Off1 I2 nw → ((@Ne Nat I C) ∧ (@Ne Nat I D) ∧ (@Ne Nat C D)) → ((@Ne Nat I2 I) ∧ (@Ne Nat I2 C) ∧ (@Ne Nat I2 D)) →
    wpAny (model prog w) A (eval elt (compEnvC scope cl C env)) (TwoEnd h₀ L m { s with heap := h, toks := tk } I2 oI2 I oI C oC D (lst ys) e e2 (fun yv nw' => K i its2 (j + 1) (ys ++ [yv]) nw')) E' { s with heap := h, toks := tk }
  next : ∀ i its2 ys nw, K i its2 its2.length ys nw → J (i + 1) ys nw
  len : ∀ i its2 j ys nw, K i its2 j ys nw → ys.length ≤ 1000
  fin : ∀ ys nw, J its.length ys nw → Fin ys nw
/-- the loops' own addresses -/
structure TwoAt (h₀ : Heap) (L I C D : Addr) : Prop where
  IC : @Ne Nat I C
  ID : @Ne Nat I D
  CD : @Ne Nat C D
  IL : I ≠ L
  CL : C ≠ L
  DL : D ≠ L
  I0 : h₀.get? I = none
  C0 : h₀.get? C = none
  D0 : h₀.get? D = none
/-- the outer loop's state -/
inductive TwoO (h₀ : Heap) (L : Addr) (m : Str → Option Value) (s₂ : Shared) (I C D ax : Addr) (its : List Value) (n : Nat) (J : Nat → List Value → Led → Prop) : Nat → Shared → Prop where
  | mk {h' : Heap} {tk i : Nat} {ys : List Value} {m' : Str → Option Value} {news' : Led} : i ≤ its.length → h'.IsListIter I ax i → Fr h₀ L h' m → h'.Ns C m' → News h₀ L h' ((D, lst ys) :: news') → Off3 I C D news' → (ax, cellsO its n) ∈ news' → J i ys news' →
      TwoO h₀ L m s₂ I C D ax its n J (its.length + 1 - i) { s₂ with heap := h', toks := tk }
/-- the inner loop's state -/
inductive TwoI (h₀ : Heap) (L : Addr) (m : Str → Option Value) (s₂ : Shared) (I C D ax I2 ax2 : Addr) (oI : Obj) (its its2 : List Value) (n n2 : Nat) (x : Str) (v : Value) (K : Nat → List Value → Led → Prop) : Nat → Shared → Prop where
  | mk {h' : Heap} {tk j : Nat} {ys : List Value} {m' : Str → Option Value} {news' : Led} : j ≤ its2.length → h'.IsListIter I2 ax2 j → Fr h₀ L h' m → h'.Ns C m' → m' x = some v → News h₀ L h' ((I, oI) :: (D, lst ys) :: news') → Off3 I C D news' → Off1 I2 news' → (ax, cellsO its n) ∈ news' → (ax2, cellsO its2 n2) ∈ news' → K j ys news' →
      TwoI h₀ L m s₂ I C D ax I2 ax2 oI its its2 n n2 x v K (its2.length + 1 - j) { s₂ with heap := h', toks := tk }
theorem two_less {a i : Nat} (h : i < a) : a + 1 - (i + 1) < a + 1 - i := by lia
theorem two_nil {its : List Value} {i : Nat} (hi : i ≤ its.length) (h : its[i]? = none) : i = its.length := Nat.le_antisymm hi (by simpa using h)
theorem two_over {x : Str} {v : Value} {m : Str → Option Value} : (fun z => if z = x then some v else m z) x = some v := if_pos rfl
theorem two_keep {x y : Str} {u v : Value} {m : Str → Option Value} (h : ¬ x = y) (k : m x = some v) : (fun z => if z = y then some u else m z) x = some v := (if_neg h).trans k
theorem two_size {ys : List Value} (h : ys.length ≤ 1000) : ys.toArray.size ≤ sizeLine := by rw [List.size_toArray]; exact Nat.le_trans h (by decide +kernel)
theorem two_plain {scope : Scope} {cl : List (Str × Addr)} {C : Addr} (hkind : scope.kind = .function) : ((compEnvC scope cl C env).scope.kind == .class || ((compEnvC scope cl C env).scope.kind == .module && (compEnvC scope cl C env).locals != (compEnvC scope cl C env).globals)) = false := by simp [compEnvC, relabel, hkind]
theorem two_item {P : Prop} {h₂ h₃ : Heap} {I C ax : Addr} {i : Nat} {m' : Str → Option Value} (hit : h₂.IsListIter I ax i) (hs : Heap.SameBut C h₂ h₃) (hIC : @Ne Nat I C) (hn : h₃.Ns C m')
    (k : ∀ oI oC, h₃.get? I = some oI → (∀ g : Heap, g.get? I = some oI → g.IsListIter I ax i) → h₃.get? C = some oC → NsObj oC m' → P) : P :=
  let ⟨oI, a, b⟩ := iter_obj (hit.extBut hs.extBut hIC); let ⟨oC, c, d⟩ := ns_obj hn; k oI oC a b c d
theorem two_news {h : Heap} {I C D : Addr} {oI oC : Obj} {l : Led} (T : TwoAt h₀ L I C D) (e : h.get? C = some oC) (N : News h₀ L h ((I, oI) :: l)) : News h₀ L h ((I, oI) :: (C, oC) :: l) :=
  news_cons (N _ List.mem_cons_self).1 T.IL T.I0 (news_cons e T.CL T.C0 (news_tl N))
theorem two_iter2 {R : Result → Shared → Prop} {elt it1 it2 : PySem.Expr} {x y : Str} {px py : Pos} {scope : Scope} {pos : Pos} {acc : Value} {I ax : Addr} (hit : s.heap.IsListIter I ax 0)
    (h : codeAny (model prog w) A (.compLoop (two elt x y px py it1 it2 scope pos) 1 (.ref I) acc env) R s) : codeAny (model prog w) A (.compStart (two elt x y px py it1 it2 scope pos) 1 (.ref I) acc env) R s := two_start1 h (wpAny_pyIter_listiter hit h)
theorem two_iter0 {R : Result → Shared → Prop} {elt it1 it2 : PySem.Expr} {x y : Str} {px py : Pos} {scope : Scope} {pos : Pos} {acc : Value} {I ax : Addr} (hit : s.heap.IsListIter I ax 0)
    (h : codeAny (model prog w) A (.compLoop (two elt x y px py it1 it2 scope pos) 0 (.ref I) acc env) R s) : codeAny (model prog w) A (.compStart (two elt x y px py it1 it2 scope pos) 0 (.ref I) acc env) R s := codeAny_compStart_list h (wpAny_pyIter_listiter hit h)
theorem two_base {P : Prop} {g h₁ : Heap} {I ax : Addr} {news : Led} {o o' : Obj} (hit : g.IsListIter I ax 0) (F : Fr h₀ L g m) (N : News h₀ L g news) (hIL : L ≠ I) (hI₀ : h₀.get? I = none) (off : ∀ p ∈ news, p.1 ≠ I)
    (hsb : Heap.SameBut (g.push o).objs.size ((g.push o).push o') h₁) (ho : o.isFreed = false)
    (k : TwoAt h₀ L I (g.push o).objs.size g.objs.size → h₁.IsListIter I ax 0 → Fr h₀ L h₁ m → News h₀ L h₁ ((g.objs.size, o) :: news) → Off3 I (g.push o).objs.size g.objs.size news → P) : P := by
  have hC : (g.push o).objs.size = g.objs.size + 1 := Heap.size_push _ _
  have b1 : ∀ b, b < g.objs.size → b ≠ g.objs.size := fun b hb => Nat.ne_of_lt hb
  have b2 : ∀ b, b < g.objs.size → b ≠ (g.push o).objs.size := fun b hb => hC ▸ Nat.ne_of_lt (Nat.lt_succ_of_lt hb)
  have hCD : (g.push o).objs.size ≠ g.objs.size := hC ▸ Nat.succ_ne_self _
  have old : ∀ b x, g.get? b = some x → h₁.get? b = some x := fun b x e => hsb.extBut b x (b2 _ (Heap.lt_size e)) (Heap.get?_push_of_some _ (Heap.get?_push_of_some _ e))
  have fresh : ∀ a, g.objs.size ≤ a → h₀.get? a = none := fun a ha => by
    cases e : h₀.get? a with
    | none => rfl
    | some o' => exact absurd (Heap.lt_size (F.keep a o' e)) (Nat.not_lt.mpr ha)
  have hI : I < g.objs.size := by obtain ⟨_, e, _⟩ := hit; exact Heap.lt_size e
  have hL : L < g.objs.size := F.ns.lt
  have D0 := fresh _ (Nat.le_refl g.objs.size)
  exact k ⟨b2 _ hI, b1 _ hI, hCD, Ne.symm hIL, Ne.symm (b2 _ hL), Ne.symm (b1 _ hL), hI₀, fresh _ (hC ▸ Nat.le_succ _), D0⟩ (hit.at fun x e => old _ x e) (F.keeps old)
    (news_cons (hsb.extBut _ _ (Ne.symm hCD) (Heap.get?_push_of_some _ (Heap.get?_push_size _ ho))) (Ne.symm (b1 _ hL)) D0 (N.grown old))
    (Off3.of fun p hp => have z := Heap.lt_size (N p hp).1; ⟨off p hp, b2 _ z, b1 _ z⟩)
theorem two_inner {elt it1 it2 : PySem.Expr} {x y : Str} {px py : Pos} {scope : Scope} {cl : List (Str × Addr)} {pos : Pos} {s₂ s₀ : Shared} {I C D I2 ax ax2 : Addr} {oI : Obj} {n n2 i k₀ : Nat} {its its2 : List Value} {v : Value} {news : Led} {J : Nat → List Value → Led → Prop} {K : Nat → List Value → Nat → List Value → Led → Prop}
    {Fin : List Value → Led → Prop} {R' : Result → Shared → Prop} (hh : A.handled = none) (hxy : ¬ x = y) (hkind : scope.kind = .function) (hy : scope.names.lookup y = some .local)
    (R : TwoRest prog w A h₀ L m env elt it2 x y scope cl s₂ (ax, cellsO its n) its J K Fin news) (T : TwoAt h₀ L I C D) (hI2I : @Ne Nat I2 I) (hI2C : @Ne Nat I2 C) (hI2D : @Ne Nat I2 D) (hI2L : I2 ≠ L) (hI2₀ : h₀.get? I2 = none)
    (hv : its[i]? = some v) (hlt : i < its.length) (hoI : ∀ g : Heap, g.get? I = some oI → g.IsListIter I ax (i + 1))
    (next : ∀ k s, k < its.length + 1 - i → TwoO h₀ L m s₂ I C D ax its n J k s → R' (.ok .next) s)
    (start : TwoI h₀ L m s₂ I C D ax I2 ax2 oI its its2 n n2 x v (K i its2) k₀ s₀) :
    codeAny (model prog w) A (.compLoop (two elt x y px py it1 it2 scope pos) 1 (.ref I2) (.ref D) (compEnvC scope cl C env)) R' s₀ := by
  refine two_loop1 (TwoI h₀ L m s₂ I C D ax I2 ax2 oI its its2 n n2 x v (K i its2)) (fun k s' h => ?_) k₀ start
  cases h with
  | @mk h' tk j ys m' news' hj hit' F' hn' hmx N' off' offI' hm' ha' hK =>
    have hl' : h'.IsList ax2 its2.toArray := led_list (news_tl (news_tl N')) ha'
    match hu : its2[j]? with
    | none =>
      have hj' := two_nil hj hu
      refine wpAny_pyNext_list_end hh hit' hl' (by simpa using hu) fun h₆ he₆ => ?_
      have hk₆ : ∀ b o, b ∉ [I2] → h'.get? b = some o → h₆.get? b = some o := fun b o hb e => he₆ b o (by simpa using hb) e
      exact next _ _ (two_less hlt) (.mk hlt (hoI _ (he₆ _ _ (Ne.symm hI2I) (N' _ List.mem_cons_self).1)) (fr_but F' hk₆ (Ne.symm hI2L) hI2₀) (hn'.at' fun o e => he₆ _ o (Ne.symm hI2C) e)
        (news_but (news_tl N') hk₆ (off_cons (Ne.symm hI2D) (off1_mem offI'))) off' hm' (R.next _ _ _ _ (hj' ▸ hK)))
    | some u =>
      have hlt2 : j < its2.length := (List.getElem?_eq_some_iff.mp hu).1
      refine wpAny_pyNext_list_item hit' hl' (by simpa using hu) fun h₆ hit₆ hs₆ => ?_
      refine wpAny_assign_Name (wpAny_storeName_local (lookup_relabel_local hy) (hn'.sameBut hs₆ (Ne.symm hI2C)) (fun h₇ hn₇ hs₇ => ?_) (two_plain hkind))
      refine two_item hit₆ hs₇ hI2C hn₇ fun oI2 oC7 heI2 hoI2 heC7 hoC7 => ?_
      refine wpAny_mono (R.inner i v its2 j u ys news' (ax2, cellsO its2 n2) I2 oI2 I oI C oC7 D _ h₇ _ _ hv hu hK hm' ha' hoC7 (two_keep hxy hmx) two_over ((F'.change hs₆ hI2L hI2₀).change hs₇ T.CL T.C0)
        (news_cons heI2 hI2L hI2₀ (two_news T heC7 (news_same (news_same N' hs₆ (off_cons (Ne.symm hI2I) (off_cons (Ne.symm hI2D) (off1_mem offI')))) hs₇ (off_cons T.IC (off_cons (Ne.symm T.CD) (off_C off'))))))
        off' offI' ⟨T.IC, T.ID, T.CD⟩ ⟨hI2I, hI2C, hI2D⟩) (fun yv s₈ h₈ => ?_) fun _ _ e => e
      cases h₈ with
      | @mk tk₈ h₈ news₈ F₈ N₈ off₈ offI₈ hm₈ ha₈ hK₈ =>
        have N₉ := news_tl (news_tl (news_tl N₈))
        refine append_at (hsz := two_size (R.len _ _ _ _ _ hK)) (N₉ _ List.mem_cons_self).1 fun h₉ hs₉ hD₉ => ?_
        exact ⟨_, two_less hlt2, .mk hlt2 (hoI2 _ (hs₉.extBut _ _ hI2D (N₈ _ List.mem_cons_self).1)) (F₈.change hs₉ T.DL T.D0) ((hoC7.ns (news_tl (news_tl N₈) _ List.mem_cons_self).1).sameBut hs₉ T.CD) (two_keep hxy hmx)
          (news_cons (hs₉.extBut _ _ T.ID (news_tl N₈ _ List.mem_cons_self).1) T.IL T.I0 (news_cons (hD₉.trans (congrArg some (lst_snoc ys yv))) T.DL T.D0 (news_same (news_tl N₉) hs₉ (off_D off₈)))) off₈ offI₈ hm₈ ha₈ hK₈⟩
theorem two_run {elt it1 it2 : PySem.Expr} {x y : Str} {px py : Pos} {scope : Scope} {cl : List (Str × Addr)} {pos : Pos} {s₂ s₀ : Shared} {I C D ax : Addr} {n k₀ : Nat} {its : List Value} {news : Led} {J : Nat → List Value → Led → Prop} {K : Nat → List Value → Nat → List Value → Led → Prop}
    {Fin : List Value → Led → Prop} {R' : Result → Shared → Prop} (hh : A.handled = none) (hxy : ¬ x = y) (hkind : scope.kind = .function) (hx : scope.names.lookup x = some .local) (hy : scope.names.lookup y = some .local)
    (R : TwoRest prog w A h₀ L m env elt it2 x y scope cl s₂ (ax, cellsO its n) its J K Fin news) (T : TwoAt h₀ L I C D) (hs2 : ∀ env x, foldedSetIterable it2 env x = pure x)
    (done : ∀ h tk m' ys news', Fr h₀ L h m → News h₀ L h ((D, lst ys) :: news') → Off1 D news' → h.Ns C m' → (∀ p ∈ news', p.1 ≠ C) → Fin ys news' → R' (.ok .next) { s₂ with heap := h, toks := tk })
    (start : TwoO h₀ L m s₂ I C D ax its n J k₀ s₀) :
    codeAny (model prog w) A (.compLoop (two elt x y px py it1 it2 scope pos) 0 (.ref I) (.ref D) (compEnvC scope cl C env)) R' s₀ := by
  refine two_loop0 (hs2 _) (TwoO h₀ L m s₂ I C D ax its n J) (fun k s' h => ?_) k₀ start
  cases h with
  | @mk h' tk i ys m' news' hi hit' F' hn' N' off' hm' hJ =>
    have hl' : h'.IsList ax its.toArray := led_list (news_tl N') hm'
    match hv : its[i]? with
    | none =>
      have hi' := two_nil hi hv
      refine wpAny_pyNext_list_end hh hit' hl' (by simpa using hv) fun h₂ he₂ => ?_
      have hk₂ : ∀ b o, b ∉ [I] → h'.get? b = some o → h₂.get? b = some o := fun b o hb e => he₂ b o (by simpa using hb) e
      exact done h₂ tk _ ys news' (fr_but F' hk₂ (Ne.symm T.IL) T.I0) (news_but N' hk₂ (off_cons (Ne.symm T.ID) (off_I off'))) off'.one (hn'.at' fun o e => he₂ _ o (Ne.symm T.IC) e) (off_C off') (R.fin _ _ (hi' ▸ hJ))
    | some v =>
      have hlt : i < its.length := (List.getElem?_eq_some_iff.mp hv).1
      refine wpAny_pyNext_list_item hit' hl' (by simpa using hv) fun h₂ hit₂ hs₂ => ?_
      refine wpAny_assign_Name (wpAny_storeName_local (lookup_relabel_local hx) (hn'.sameBut hs₂ (Ne.symm T.IC)) (fun h₃ hn₃ hs₃ => ?_) (two_plain hkind))
      refine two_item hit₂ hs₃ T.IC hn₃ fun oI oC heI hoI heC hoC => ?_
      refine wpAny_mono (R.outer i v ys news' I oI C oC D _ h₃ _ _ hv hJ hm' hoC two_over ((F'.change hs₂ T.IL T.I0).change hs₃ T.CL T.C0)
        (news_cons heI T.IL T.I0 (news_cons heC T.CL T.C0 (news_same (news_same N' hs₂ (off_cons (Ne.symm T.ID) (off_I off'))) hs₃ (off_cons (Ne.symm T.CD) (off_C off')))))
        off' ⟨T.IC, T.ID, T.CD⟩) (fun xv s₄ h₄ => ?_) fun _ _ e => e
      cases h₄ with
      | @mk ax2 n2 tk₄ its2 h₄ news₄ F₄ N₄ off₄ hm₄ ha₄ hK₄ =>
        have N₅ := news_tl (news_tl (news_tl N₄))
        refine wpAny_pyIter_list (led_list N₅ ha₄) ?_
        have new : ∀ b o, h₄.get? b = some o → b ≠ h₄.objs.size := fun b o e => Nat.ne_of_lt (Heap.lt_size e)
        have up : ∀ b o, h₄.get? b = some o → (h₄.push { cls := .type "list_iterator", data := .fields #[.ref ax2, .int 0 0] }).get? b = some o := fun b o e => Heap.get?_push_of_some _ e
        have hitJ : (h₄.push { cls := .type "list_iterator", data := .fields #[.ref ax2, .int 0 0] }).IsListIter h₄.objs.size ax2 0 := ⟨_, Heap.get?_push_size _ rfl, rfl, rfl⟩
        have zI := (N₄ _ List.mem_cons_self).1
        have zC := (news_tl N₄ _ List.mem_cons_self).1
        have zD := (news_tl (news_tl N₄) _ List.mem_cons_self).1
        exact two_iter2 hitJ (two_inner hh hxy hkind hy R T (Ne.symm (new _ _ zI)) (Ne.symm (new _ _ zC)) (Ne.symm (new _ _ zD)) (Ne.symm (Nat.ne_of_lt F₄.ns.lt)) (next_is_new F₄) hv hlt hoI (fun k s hk hO => ⟨k, hk, hO⟩)
          (.mk (Nat.zero_le _) hitJ (F₄.keeps up) (hoC.ns (up _ _ zC)) two_over (news_cons (up _ _ zI) T.IL T.I0 (news_cons (up _ _ zD) T.DL T.D0 (N₅.grown up))) off₄ (off1_of fun p hp => new _ _ (N₅ p hp).1) hm₄ ha₄ hK₄))
theorem two_block {elt it1 it2 : PySem.Expr} {x y : Str} {px py : Pos} {scope : Scope} {cl : List (Str × Addr)} {pos : Pos} {s₂ : Shared} {I ax : Addr} {n : Nat} {its : List Value} {news : Led} {J : Nat → List Value → Led → Prop} {K : Nat → List Value → Nat → List Value → Led → Prop}
    {Fin : List Value → Led → Prop} {RR : Value → Addr → Result → Shared → Prop} (hh : A.handled = none) (hxy : ¬ x = y)
    (hcell : ∀ y ∈ scope.names, y.2 ≠ .cell) (hkind : scope.kind = .function) (hx : scope.names.lookup x = some .local) (hy : scope.names.lookup y = some .local)
    (hit : s₂.heap.IsListIter I ax 0) (F : Fr h₀ L s₂.heap m) (N : News h₀ L s₂.heap news) (hIL : L ≠ I) (hI₀ : h₀.get? I = none) (off : ∀ p ∈ news, p.1 ≠ I) (hm : (ax, cellsO its n) ∈ news)
    (R : TwoRest prog w A h₀ L m env elt it2 x y scope cl s₂ (ax, cellsO its n) its J K Fin news)
    (hRR : ∀ D C h tk m' ys news', (∀ p ∈ news, p.1 < D) → Fr h₀ L h m → News h₀ L h ((D, lst ys) :: news') → Off1 D news' → h.Ns C m' → h₀.get? C = none → h₀.get? D = none → C ≠ L → D ≠ L → C ≠ D → (∀ p ∈ news', p.1 ≠ C) → Fin ys news' → RR (.ref D) C (.ok .next) { s₂ with heap := h, toks := tk })
    (hs2 : ∀ env x, foldedSetIterable it2 env x = pure x) :
    wpAny (model prog w) A (newList []) (fun acc s₃ => wpAny (model prog w) A (newFunctionEnv scope env.globals cl [] env.qual none .none (some env)) (fun cenv s₄ =>
      codeAny (model prog w) A (.compStart (two elt x y px py it1 it2 scope pos) 0 (.ref I) acc { cenv with scope := relabel scope env }) (RR acc cenv.locals) s₄) E s₃) E s₂ := by
  refine wpAny_newObj_type (wpAny_newFunctionEnv hcell (fun _ hy => nomatch hy) (fun h₁ hns₁ hsb₁ => ?_) hkind)
  exact two_base hit F N hIL hI₀ off hsb₁ rfl fun T hit₁ hF₁ hN₁ off₀ => two_iter0 hit₁ (two_run hh hxy hkind hx hy R T hs2
    (fun h tk m' ys news' F N' o ns oc f => hRR _ _ h tk m' ys news' (fun p hp => Heap.lt_size (N p hp).1) F N' o ns T.C0 T.D0 T.CL T.DL T.CD oc f) (.mk (Nat.zero_le _) hit₁ hF₁ hns₁ hN₁ off₀ hm R.start))
end
section
variable {prog : Program} {w : World} {A : Around} {E : Value → Shared → Prop} {s : Shared} {h₀ : Heap} {L : Addr} {m : Str → Option Value} {env : Env}
noncomputable def FinB (h₀ : Heap) (L : Addr) (m : Str → Option Value) (s : Shared) (y : Str) (Q : Flow → Shared → Prop) (old : Led) (ys : List Value) (news : Led) : Prop :=
  ∀ D h tk, (∀ p ∈ old, p.1 < D) → Fr h₀ L h (fun z => if z = y then some (.ref D) else m z) → News h₀ L h ((D, lst ys) :: news) → Off1 D news → Q .next { s with heap := h, toks := tk }
/-- the outer source: a list of the ledger -/
noncomputable def TwoSrc (prog : Program) (w : World) (A : Around) (h₀ : Heap) (L : Addr) (m : Str → Option Value) (env : Env) (elt it2 : PySem.Expr) (x y : Str) (scope : Scope) (cl : List (Str × Addr)) (Fin : Shared → Led → List Value → Led → Prop) (xv : Value) (s₁ : Shared) : Prop :=
  ∃ ax its n news, xv = .ref ax ∧ A.handled = none ∧ Fr h₀ L s₁.heap m ∧ News h₀ L s₁.heap news ∧ (ax, cellsO its n) ∈ news ∧
    ∀ s₂ : Shared, (∃ h, s₂ = { s₁ with heap := h }) → ∃ J K, TwoRest prog w A h₀ L m env elt it2 x y scope cl s₂ (ax, cellsO its n) its J K (Fin s₂ news) news
theorem TwoSrc.ledger {elt it2 : PySem.Expr} {x y : Str} {scope : Scope} {cl : List (Str × Addr)} {Fin : Shared → Led → List Value → Led → Prop} {ax : Addr} {its : List Value} {n : Nat} {news : Led} {s₁ : Shared} (J : Nat → List Value → Led → Prop) (K : Nat → List Value → Nat → List Value → Led → Prop)
    (hh : A.handled = none) (F : Fr h₀ L s₁.heap m) (N : News h₀ L s₁.heap news) (hm : (ax, cellsO its n) ∈ news)
    (h : ∀ g, TwoRest prog w A h₀ L m env elt it2 x y scope cl { s₁ with heap := g } (ax, cellsO its n) its J K (Fin { s₁ with heap := g } news) news) :
    TwoSrc prog w A h₀ L m env elt it2 x y scope cl Fin (.ref ax) s₁ := ⟨ax, its, n, news, rfl, hh, F, N, hm, fun _ ⟨g, e⟩ => ⟨J, K, e ▸ h g⟩⟩
theorem two_Assign {elt it1 it2 : PySem.Expr} {x y z : Str} {px py pz : Pos} {scope : Scope} {cl : List (Str × Addr)} {pos spos : Pos} {Q : Flow → Shared → Prop} (_F₀ : Fr h₀ L s.heap m) (hLe : env.locals = L)
    (hsw : swapsWith (two elt x y px py it1 it2 scope pos) (some (.Name z pz)) spos.line env = pure true)
    (hclos : closureFor scope env = pure cl) (hcell : ∀ z ∈ scope.names, z.2 ≠ .cell) (hkind : scope.kind = .function)
    (hnames : ∀ z ∈ scope.names, z.2 = .local → scope.names.lookup z.1 = some .local) (hxy : ¬ x = y) (hx : scope.names.lookup x = some .local) (hy : scope.names.lookup y = some .local)
    (hz : env.kindOf z = some .local) (hp : (env.scope.kind == .class || (env.scope.kind == .module && env.locals != env.globals)) = false)
    (h : wpAny (model prog w) A (eval it1 env) (TwoSrc prog w A h₀ L m env elt it2 x y scope cl (fun s₂ => FinB h₀ L m s₂ z Q)) E s)
    (hs : ∀ x, foldedSetIterable it1 env x = pure x) (hs2 : ∀ env x, foldedSetIterable it2 env x = pure x) :
    wpAny (model prog w) A (exec (.Assign [.Name z pz] (two elt x y px py it1 it2 scope pos) spos) env) Q E s := by
  subst hLe
  rw [exec_Assign_Name_used _ _ _ _ hsw]
  refine wpAny_bind (wpAny_standAt (wpAny_bind ?_))
  show wpAny _ A (do let _ ← comprehension (two elt x y px py it1 it2 scope pos) scope env _ (newList []) false (eval it1 env) (some (assign (.Name z pz) env))) _ _ s
  refine wpAny_bind (wpAny_mono (wpAny_comprehension_free (use := some (assign (.Name z pz) env)) (Q := fun _ s' => Q .next s') rfl hs hclos hkind hnames
    (wpAny_mono h (fun xv s₁ h₁ => ?_) fun _ _ e => e)) (fun _ s' hq => wpAny_pure (wpAny_pure hq)) fun _ _ e => e)
  obtain ⟨ax, its, n, news, rfl, hh, F, N, hm, R⟩ := h₁
  have hl : s₁.heap.IsList ax its.toArray := ⟨_, (N _ hm).1, rfl, _, rfl⟩
  refine wpAny_pyIter_list hl ?_
  have up : ∀ b o, s₁.heap.get? b = some o → (s₁.heap.push { cls := .type "list_iterator", data := .fields #[.ref ax, .int 0 0] }).get? b = some o := fun b o e => Heap.get?_push_of_some _ e
  obtain ⟨J, K, R⟩ := R { s₁ with heap := s₁.heap.push { cls := .type "list_iterator", data := .fields #[.ref ax, .int 0 0] } } ⟨_, rfl⟩
  refine two_block hh hxy hcell hkind hx hy ⟨_, Heap.get?_push_size _ rfl, rfl, rfl⟩ (F.keeps up) (N.grown up) (Nat.ne_of_lt F.ns.lt) (next_is_new F) (fun p hp => Nat.ne_of_lt (Heap.lt_size (N p hp).1)) hm R ?_ hs2
  intro D C h' tk m' ys news' hDn F' N' o1 hn hC₀ hD₀ hCL hDL hCD offC fin
  show wpAny _ A (assign (.Name z pz) env (.ref D)) _ _ _
  refine wpAny_assign_Name (wpAny_storeName_local hz F'.ns (fun h₂ hn₂ hs₂ => ?_) hp)
  have hL₀ : h₀.get? env.locals = none := Heap.get?_none_of_le F'.above
  have F₂ : Fr h₀ env.locals h₂ (fun y => if y = z then some (.ref D) else m y) := ⟨hn₂, fun b o e => hs₂.extBut b o (fun q => by rw [q, hL₀] at e; cases e) (F'.keep b o e), F'.above⟩
  refine ⟨m', hn.sameBut hs₂ hCL, fun h'' hs'' => fin D h'' _ hDn (F₂.change hs'' hCL hC₀) (fun p hp => ?_) o1⟩
  have y : h₂.get? p.1 = some p.2 := hs₂.extBut _ _ (N' p hp).2.1 (N' p hp).1
  refine ⟨hs''.extBut _ _ ?_ y, (N' p hp).2⟩
  rcases List.mem_cons.mp hp with rfl | hp
  · exact Ne.symm hCD
  · exact offC p hp
end
end Mine
end

section
open PySem PySem.W PyProof.Rows PySem.Spec PySem.Calls
set_option Elab.async false
set_option maxRecDepth 100000
namespace Mine
section
variable {prog : Program} {w : World} {K : Type} [DecidableEq K] {knd : KeyKind prog w K} {A : Around} {E : Value → Shared → Prop} {s : Shared}
theorem put_pairs {d : Addr} {kvs : List (K × Value)} {k : K} {key v : Value} {Q : Unit → Shared → Prop} (hkey : knd.is k key = true) (hm : s.heap.DictOf knd d kvs)
    (hQ : ∀ h', h'.DictOf knd d (stored kvs k v) → Heap.SameBut d s.heap h' → Q () { s with heap := h' })
    (hsz : kvs.length ≤ sizeLine := by size_fits) :
    wpAny (model prog w) A (dictPut d (knd.hash k) key v) Q E s := by
  obtain ⟨o, es, ep, ho, hc, hd, hk, hp, hn⟩ := hm
  have hes : es.size ≤ sizeLine := by have e1 := hp.length; have e2 : es.toList.length = es.size := by simp
                                      lia
  unfold dictPut
  refine wpAny_bind (wpAny_dictFind_of hkey ho hd hk ?_)
  have hidx : (es.findIdx? fun e => knd.is k e.key) = kvs.findIdx? fun kv => decide (kv.1 = k) := by
    rw [← hp.findIdx k]; obtain ⟨l⟩ := es; simp
  cases hi : es.findIdx? fun e => knd.is k e.key with
  | some i =>
    refine wpAny_updateDict ho hd (hQ _ ⟨_, _, ep, Heap.get?_update_self _ ho (Obj.isFreed_of_dict (Obj.data_mapDict hd _)),
      hc.mapDict _, Obj.data_mapDict hd _, hk.modify _ _, ?_, ?_⟩ (Heap.SameBut.update ..))
    · rw [stored, if_pos (any_of_findIdx_some (hidx ▸ hi))]
      have hl : (es.toList.findIdx? fun e => knd.is k e.key) = some i := by rw [← hi]; obtain ⟨l⟩ := es; simp
      have := hp.modify hn hl v
      obtain ⟨l⟩ := es
      simpa using this
    · rw [stored, if_pos (any_of_findIdx_some (hidx ▸ hi)), keys_map_store]; exact hn
  | none =>
    have hnot : k ∉ kvs.map (·.1) := not_mem_of_findIdx_none (hidx ▸ hi)
    have hany : ¬ (kvs.any fun kv => decide (kv.1 = k)) = true := by
      rw [List.any_eq_true]; rintro ⟨kv, hkv, he⟩
      exact hnot (List.mem_map.mpr ⟨kv, hkv, of_decide_eq_true he⟩)
    refine wpAny_updateDictKeys (hz := hes) ho hd (hQ _ ⟨_, _, ep + 1, Heap.get?_update_self _ ho (Obj.isFreed_of_dict (Obj.data_mapDictKeys hd _)),
      hc.mapDictKeys _, Obj.data_mapDictKeys hd _, hk.push hkey _, ?_, ?_⟩ (Heap.SameBut.update ..))
    · rw [stored, if_neg hany]
      have := hp.append hkey (knd.hash k) v
      obtain ⟨l⟩ := es
      simpa using this
    · rw [stored, if_neg hany, List.map_append, List.nodup_append]
      refine ⟨hn, by simp, ?_⟩
      intro a ha b hb
      simp only [List.map_cons, List.map_nil, List.mem_singleton] at hb
      subst hb
      exact fun e => hnot (e ▸ ha)

theorem merge_dicts {d o : Addr} {kvs more : List (K × Value)} {Q : Unit → Shared → Prop} (hdo : d ≠ o) (hoS : (o == sysModules) = false)
    (hd : s.heap.DictOf knd d kvs) (ho : s.heap.DictOf knd o more)
    (hQ : ∀ h', h'.DictOf knd d (merged kvs more) → h'.DictOf knd o more → Heap.SameBut d s.heap h' → Q () { s with heap := h' })
    (hsz : kvs.length + more.length ≤ sizeLine) :
    wpAny (model prog w) A (mergeMapping d (.ref o) false) Q E s := by
  obtain ⟨od, esd, epd, hod, hcd, hdd, hkd, hpd, hnd⟩ := id hd
  obtain ⟨oo, eso, epo, hoo, hco, hdo', hko, hpo, hno⟩ := id ho
  unfold mergeMapping
  refine wpAny_bind (wpAny_isInstance ho.typeIs isSubtype_dict_dict ?_)
  simp only [if_true]
  refine wpAny_bind (wpAny_specialOf ho.typeIs F.slot_dict_iter.lookup ?_)
  refine wpAny_bind (wpAny_pure ?_)
  simp only [beq_self_eq_true]
  rw [if_neg (by rw [hoS]; exact Bool.false_ne_true)]
  have hlen : more.length = eso.size := by rw [← hpo.length]; simp
  refine wpAny_bind (wpAny_dictEntries hod hdd ?_)
  have loop : wpAny (model prog w) A (do
      let __do_lift ← dictEntries o
      let epoch ← dictEpoch o
      forIn (List.range __do_lift.size) PUnit.unit fun i (_ : PUnit) => (do
          let l' ← dictEntries o
          match l'[i]? with
            | some e => do
              holding [e.key, e.val] (dictPut d e.hash e.key e.val)
              let ep' ← dictEpoch o
              if (ep' != epoch) = true then do
                  (unsupported "dict.changed-during-merge" : Sem PUnit)
                  pure (ForInStep.yield PUnit.unit)
                else pure (ForInStep.yield PUnit.unit)
            | _ => do
              (unsupported "dict.changed-during-merge" : Sem PUnit)
              pure (ForInStep.yield PUnit.unit) : Sem (ForInStep PUnit))
      pure ()) Q E s := by
    refine wpAny_bind (wpAny_dictEntries hoo hdo' ?_)
    refine wpAny_bind (wpAny_dictEpoch hoo hdo' ?_)
    refine wpAny_bind ?_
    rw [List.range_eq_range']
    refine wpAny_forIn_list _
      (fun rest _ s' => ∃ h' i, s' = { s with heap := h' } ∧ rest = List.range' i (eso.size - i) ∧ i ≤ eso.size ∧ h'.DictOf knd d (merged kvs (more.take i)) ∧ h'.get? o = some oo ∧ Heap.SameBut d s.heap h')
      _ ?_ ?_ _ _ ⟨s.heap, 0, rfl, by simp, Nat.zero_le _, by simpa [merged] using hd, hoo, Heap.SameBut.refl _ _⟩
    · rintro x rest b s' ⟨h', i, rfl, hr, hi, hd', hoo', hs'⟩
      have hlt : i < eso.size := by
        rcases Nat.lt_or_ge i eso.size with h | h
        · exact h
        · rw [Nat.sub_eq_zero_of_le h] at hr; simp at hr
      obtain ⟨rfl, hrest⟩ : x = i ∧ rest = List.range' (i + 1) (eso.size - (i + 1)) := by
        have e : eso.size - i = (eso.size - (i + 1)) + 1 := by lia
        rw [e, List.range'_succ] at hr
        injection hr with h1 h2
        exact ⟨h1, h2⟩
      refine wpAny_bind (wpAny_dictEntries hoo' hdo' ?_)
      rw [Array.getElem?_eq_getElem hlt]
      obtain ⟨kv, hkv⟩ : ∃ kv, more[x]? = some kv := ⟨more[x]'(by rw [hlen]; exact hlt), List.getElem?_eq_getElem _⟩
      obtain ⟨k, v⟩ := kv
      obtain ⟨hkey, hval⟩ := hpo.get? (e := eso[x]) (by simp [hlt]) hkv
      obtain ⟨k', hkey', hhash⟩ := hko eso[x] (Array.getElem_mem hlt)
      obtain rfl : k' = k := knd.inj _ _ _ hkey' hkey
      show wpAny _ _ (holding [eso[x].key, eso[x].val] (dictPut d eso[x].hash eso[x].key eso[x].val) >>= _) _ _ _
      rw [hhash, hval]
      have hmx : (merged kvs (more.take x)).length ≤ sizeLine := by
        have e1 := merged_length_le kvs (more.take x)
        have e2 : (more.take x).length ≤ more.length := by rw [List.length_take]; lia
        lia
      refine wpAny_bind (wpAny_holding (put_pairs (hsz := hmx) hkey hd' fun h'' hd'' hs'' => ?_))
      have hoo'' : h''.get? o = some oo := (hs''.2 o (Ne.symm hdo)).trans hoo'
      refine wpAny_bind (wpAny_dictEpoch hoo'' hdo' ?_)
      rw [if_neg (by simp)]
      exact wpAny_pure ⟨h'', x + 1, rfl, hrest, hlt, by rw [merged_take_succ kvs more x (k', v) hkv]; exact hd'', hoo'', hs'.trans hs''⟩
    · rintro b s' ⟨h', i, rfl, hr, hi, hd', hoo', hs'⟩
      have hin : i = eso.size := by
        rcases Nat.lt_or_ge i eso.size with h | h
        · have e : eso.size - i = (eso.size - (i + 1)) + 1 := by lia
          rw [e, List.range'_succ] at hr; exact nomatch hr
        · exact Nat.le_antisymm hi h
      refine wpAny_pure (hQ h' ?_ ⟨oo, eso, epo, hoo', hco, hdo', hko, hpo, hno⟩ hs')
      rw [hin, ← hlen, List.take_length] at hd'; exact hd'
  split
  · refine wpAny_bind (wpAny_dictEntries hoo hdo' ?_)
    have hscan : (forIn eso PUnit.unit fun e (_ : PUnit) => (match e.key with
        | .ref _ => do
          let __do_lift ← specialOf e.key (Str.ofString "__eq__")
          if (__do_lift != some (Value.builtin "object.__eq__")) = true then
            if (Array.filter (fun x => x.hash == e.hash) eso).size > 1 then do
              (unsupported "dict.merge-into-an-empty-dict:keys-of-equal-hash" : Sem PUnit)
              pure (ForInStep.yield PUnit.unit)
            else pure (ForInStep.yield PUnit.unit)
          else pure (ForInStep.yield PUnit.unit)
        | _ => pure (ForInStep.yield PUnit.unit) : Sem (ForInStep PUnit))) = pure PUnit.unit := by
      rw [← Array.forIn_toList]
      refine forIn_yield_id _ fun e he c => ?_
      obtain ⟨k, hkey, _⟩ := hko e (Array.mem_toList_iff.mp he)
      have hb := knd.byValue k _ hkey
      cases hk : e.key with
      | ref a => rw [hk] at hb; exact absurd (show false = true from hb) Bool.false_ne_true
      | _ => rfl
    exact wpAny_bind (wpAny_of_eq hscan loop)
  · exact loop

noncomputable def mergeStar (d : Addr) (m : Value) : Sem Unit :=
  (((holding [.ref d, m] (mergeMapping d m false)).onRaise fun x => (fun _ => ()) <$> holding [.ref d, m, x] (runValue (.builtin "proto.let_go" {}))).tryCatch fun e => do
    let b ← isInstance e (.type "AttributeError")
    if b = true then do
      rule "dict.display.not-a-mapping"
      let n ← PySem.typeNameOf m
      raiseErrorMade "TypeError" (toString "'" ++ toString n ++ toString "' object is not a mapping")
      throw e
    else throw e).onRaise fun x => (fun _ => ()) <$> holding [.ref d, x] (runValue (.builtin "proto.let_go" {}))
noncomputable def mergeSub (d : Addr) (m : Addr) : Sem Unit := (holding [.ref d, .ref m] (mergeMapping d (.ref m) false)).onRaise fun x => (fun _ => ()) <$> holding [.ref d, x] (runValue (.builtin "proto.let_go" {}))
theorem disp_pair (t1 tk tv : Sem Value) : dictDisplay [(none, t1), (some tk, tv)] = (do
    let d ← alloc { cls := .type "dict", data := .dict #[] }
    let m ← holding [.ref d] t1
    mergeStar d m
    let sub ← holding [.ref d] (subDict [(tk, tv)])
    mergeSub d sub
    pure (.ref d)) := by
  unfold dictDisplay
  simp [mergeStar, mergeSub, bind_assoc]
theorem disp_two (t1 t2 : Sem Value) : dictDisplay [(none, t1), (none, t2)] = (do
    let d ← alloc { cls := .type "dict", data := .dict #[] }
    let m ← holding [.ref d] t1
    mergeStar d m
    let m2 ← holding [.ref d] t2
    mergeStar d m2
    pure (.ref d)) := by
  unfold dictDisplay
  simp [mergeStar, mergeSub, bind_assoc]
theorem wpAny_mergeStar {d o : Addr} {kvs more : List (K × Value)} {Q : Unit → Shared → Prop} (hdo : d ≠ o) (hoS : (o == sysModules) = false)
    (hd : s.heap.DictOf knd d kvs) (ho : s.heap.DictOf knd o more)
    (hQ : ∀ h', h'.DictOf knd d (merged kvs more) → h'.DictOf knd o more → Heap.SameBut d s.heap h' → Q () { s with heap := h' })
    (hsz : kvs.length + more.length ≤ sizeLine) :
    wpAny (model prog w) A (mergeStar d (.ref o)) Q E s :=
  wpAny_onRaise (wpAny_tryCatch (wpAny_onRaise (wpAny_holding (merge_dicts hdo hoS hd ho hQ hsz))))
end
end Mine
end

section
open PySem PySem.W PyProof.Rows PySem.Spec PySem.Calls PyProof.Rows.LCg
set_option Elab.async false
set_option maxRecDepth 100000
namespace Mine
noncomputable abbrev emptyD : Obj := { cls := .type "dict", data := .dict #[] }
section
variable {prog : Program} {w : World} {K : Type} [DecidableEq K] {knd : KeyKind prog w K} {A : Around} {E : Value → Shared → Prop} {s : Shared} {h₀ : Heap} {L : Addr} {m : Str → Option Value} {env : Env} {mean : ExcName → Option Value} {mg mb : Str → Option Value}
theorem dict_of {h : Heap} {a : Addr} {o : Obj} {kvs : List (K × Value)} (e : h.get? a = some o) (d : o.IsDictOf knd kvs) : h.DictOf knd a kvs := Heap.dictOf_iff.mpr ⟨o, e, d⟩
theorem empty_at (h : Heap) : emptyD.IsDictOf knd [] := by
  obtain ⟨o, e, r⟩ := Heap.dictOf_iff.mp (show (h.push emptyD).DictOf knd h.objs.size [] from Heap.DictOf.new (knd := knd) h)
  have q : (h.push emptyD).get? h.objs.size = some emptyD := Heap.get?_push_size h rfl
  rw [q] at e
  exact (Option.some.inj e) ▸ r
theorem empty_is : emptyD.IsDictOf knd [] := empty_at default
/-- a star's value: a dict of the ledger -/
noncomputable def Star1 (knd : KeyKind prog w K) (h₀ : Heap) (L : Addr) (m : Str → Option Value) (s₁ : Shared) (e : Addr × Obj) (rest : List (K × Value) → Led → Prop) (v : Value) (s₂ : Shared) : Prop :=
  ∃ a o kvs h' tk news', v = .ref a ∧ s₂ = { s₁ with heap := h', toks := tk } ∧ Fr h₀ L h' m ∧ News h₀ L h' (e :: news') ∧ Off1 e.1 news' ∧ (a, o) ∈ news' ∧ (a == sysModules) = false ∧ o.IsDictOf knd kvs ∧ kvs.length ≤ 100 ∧ rest kvs news'
theorem star1 {e : Addr × Obj} {rest : List (K × Value) → Led → Prop} {s₁ : Shared} {a : Addr} {o : Obj} {kvs : List (K × Value)} {h' : Heap} {tk : Nat} {all news' : Led}
    (F : Fr h₀ L h' m) (N : News h₀ L h' all) (hd : o.IsDictOf knd kvs) (he : e ∈ all) (k : Cut1 e.1 all news') (ha : (a, o) ∈ news') (hy : (a == sysModules) = false) (hl : kvs.length ≤ 100) (r : rest kvs news') :
    Star1 knd h₀ L m s₁ e rest (.ref a) { s₁ with heap := h', toks := tk } :=
  ⟨a, o, kvs, h', tk, news', rfl, rfl, F, fun p hp => by
    rcases List.mem_cons.mp hp with rfl | hp
    · exact N _ he
    · exact N _ (k.sub _ hp), k.off, ha, hy, hd, hl, r⟩
/-- the same, of a display of stars alone -/
noncomputable def StarT (knd : KeyKind prog w K) (h₀ : Heap) (L : Addr) (m : Str → Option Value) (s₁ : Shared) (e : Addr × Obj) (rest : List (K × Value) → Led → Prop) (v : Value) (s₂ : Shared) : Prop := Star1 knd h₀ L m s₁ e rest v s₂
theorem starT {e : Addr × Obj} {rest : List (K × Value) → Led → Prop} {s₁ : Shared} {a : Addr} {o : Obj} {kvs : List (K × Value)} {h' : Heap} {tk : Nat} {all news' : Led}
    (F : Fr h₀ L h' m) (N : News h₀ L h' all) (hd : o.IsDictOf knd kvs) (he : e ∈ all) (k : Cut1 e.1 all news') (ha : (a, o) ∈ news') (hy : (a == sysModules) = false) (hl : kvs.length ≤ 100) (r : rest kvs news') :
    StarT knd h₀ L m s₁ e rest (.ref a) { s₁ with heap := h', toks := tk } := star1 F N hd he k ha hy hl r
/-- key and value of a display's last item -/
noncomputable def Star2 (knd : KeyKind prog w K) (h₀ : Heap) (L : Addr) (m : Str → Option Value) (s₁ : Shared) (e : Addr × Obj) (sub : Addr) (fin : K → Value → Led → Prop) (kv vv : Value) (s₂ : Shared) : Prop :=
  ∃ key h' tk news', knd.is key kv = true ∧ s₂ = { s₁ with heap := h', toks := tk } ∧ Fr h₀ L h' m ∧ News h₀ L h' ((sub, emptyD) :: e :: news') ∧ Off1 sub news' ∧ Off1 e.1 news' ∧ fin key vv news'
theorem star2 {e : Addr × Obj} {sub : Addr} {fin : K → Value → Led → Prop} {s₁ : Shared} {kv vv : Value} {key : K} {h' : Heap} {tk : Nat} {all l1 news' : Led} (hk : knd.is key kv = true)
    (F : Fr h₀ L h' m) (N : News h₀ L h' all) (hsub : (sub, emptyD) ∈ all) (he : e ∈ all) (k : Cut1 sub all l1) (k1 : Cut1 e.1 l1 news') (r : fin key vv news') :
    Star2 knd h₀ L m s₁ e sub fin kv vv { s₁ with heap := h', toks := tk } :=
  ⟨key, h', tk, news', hk, rfl, F, fun p hp => by
    rcases List.mem_cons.mp hp with rfl | hp
    · exact N _ hsub
    · rcases List.mem_cons.mp hp with rfl | hp
      · exact N _ he
      · exact N _ (k.sub _ (k1.sub _ hp)), off1_of fun p hp => off1_mem k.off p (k1.sub _ hp), k1.off, r⟩
theorem merged_one (kvs : List (K × Value)) (key : K) (v : Value) : merged kvs [(key, v)] = stored kvs key v := rfl
theorem nodup_of {o : Obj} {kvs : List (K × Value)} (d : o.IsDictOf knd kvs) : (kvs.map (·.1)).Nodup := by obtain ⟨_, _, _, _, _, _, h⟩ := d; exact h
theorem led_change {h h' : Heap} {a : Addr} {o o' : Obj} {news : Led} (N : News h₀ L h ((a, o) :: news)) (hs : Heap.SameBut a h h') (e : h'.get? a = some o') (off : Off1 a news) : News h₀ L h' ((a, o') :: news) := fun p hp => by
  rcases List.mem_cons.mp hp with rfl | hp
  · exact ⟨e, (N _ List.mem_cons_self).2⟩
  · exact ⟨hs.extBut _ _ (off1_mem off p hp) (N _ (List.mem_cons_of_mem _ hp)).1, (N _ (List.mem_cons_of_mem _ hp)).2⟩
theorem mergeStar_led {d a : Addr} {od oa : Obj} {kvs more : List (K × Value)} {news : Led} {Q : Unit → Shared → Prop}
    (F : Fr h₀ L s.heap m) (N : News h₀ L s.heap ((d, od) :: news)) (off : Off1 d news) (ha : (a, oa) ∈ news) (hy : (a == sysModules) = false) (dd : od.IsDictOf knd kvs) (da : oa.IsDictOf knd more) (hl : kvs.length + more.length ≤ sizeLine)
    (h : ∀ o' h', o'.IsDictOf knd (merged kvs more) → Fr h₀ L h' m → News h₀ L h' ((d, o') :: news) → Q () { s with heap := h' }) :
    wpAny (model prog w) A (mergeStar d (.ref a)) Q E s := by
  have hda : d ≠ a := Ne.symm (off1_mem off _ ha)
  refine wpAny_mergeStar (knd := knd) hda hy (dict_of (N _ List.mem_cons_self).1 dd) (dict_of (N _ (List.mem_cons_of_mem _ ha)).1 da) (fun h' hd' _ hs' => ?_) hl
  obtain ⟨o', e', r'⟩ := Heap.dictOf_iff.mp hd'
  exact h o' h' r' (F.change hs' (N _ List.mem_cons_self).2.1 (N _ List.mem_cons_self).2.2) (led_change N hs' e' off)
theorem mergeSub_led {d a : Addr} {od oa : Obj} {kvs more : List (K × Value)} {news : Led} {Q : Unit → Shared → Prop}
    (F : Fr h₀ L s.heap m) (N : News h₀ L s.heap ((d, od) :: news)) (off : Off1 d news) (ha : (a, oa) ∈ news) (hy : (a == sysModules) = false) (dd : od.IsDictOf knd kvs) (da : oa.IsDictOf knd more) (hl : kvs.length + more.length ≤ sizeLine)
    (h : ∀ o' h', o'.IsDictOf knd (merged kvs more) → Fr h₀ L h' m → News h₀ L h' ((d, o') :: news) → Q () { s with heap := h' }) :
    wpAny (model prog w) A (mergeSub d a) Q E s := by
  have hda : d ≠ a := Ne.symm (off1_mem off _ ha)
  refine wpAny_onRaise (wpAny_holding (merge_dicts (knd := knd) hda hy (dict_of (N _ List.mem_cons_self).1 dd) (dict_of (N _ (List.mem_cons_of_mem _ ha)).1 da) (fun h' hd' _ hs' => ?_) hl))
  obtain ⟨o', e', r'⟩ := Heap.dictOf_iff.mp hd'
  exact h o' h' r' (F.change hs' (N _ List.mem_cons_self).2.1 (N _ List.mem_cons_self).2.2) (led_change N hs' e' off)
theorem off1_new {h : Heap} {news : Led} (N : News h₀ L h news) : Off1 h.objs.size news := off1_of fun p hp => Nat.ne_of_lt (Heap.lt_size (N p hp).1)

theorem star_pair {e1 k e2 : PySem.Expr} {pos : Pos} {news : Led} {Q : Value → Shared → Prop} (F : Fr h₀ L s.heap m) (N : News h₀ L s.heap news) (hsys : sysModules < L)
    (h : ∀ d h', Fr h₀ L h' m → News h₀ L h' ((d, emptyD) :: news) → (∀ p ∈ news, p.1 < d) → (d == sysModules) = false →
      wpAny (model prog w) A (eval e1 env) (Star1 knd h₀ L m { s with heap := h' } (d, emptyD) (fun kvs nw => ∀ o1 sub h1 tk1, o1.IsDictOf knd kvs → Fr h₀ L h1 m → News h₀ L h1 ((sub, emptyD) :: (d, o1) :: nw) → Off1 d nw → (∀ p ∈ nw, p.1 < sub) → @LT.lt Nat _ d sub →
        wpAny (model prog w) A (eval k env) (fun kv s₂ => wpAny (model prog w) A (eval e2 env) (fun vv s₃ =>
          Star2 knd h₀ L m { s with heap := h1, toks := tk1 } (d, o1) sub (fun key vv nw' => ∀ o2 h2 tk2, o2.IsDictOf knd (stored kvs key vv) → Fr h₀ L h2 m → News h₀ L h2 ((d, o2) :: nw') → Off1 d nw' → Q (.ref d) { s with heap := h2, toks := tk2 }) kv vv s₃) E s₂) E { s with heap := h1, toks := tk1 })) E { s with heap := h' }) :
    wpAny (model prog w) A (eval (.Dict [none, some k] [e1, e2] pos) env) Q E s := by
  rw [arm_eval_Dict]
  refine wpAny_bind (wpAny_standAt ?_)
  show wpAny (model prog w) A (dictDisplay [(none, do let x ← eval e1 env; standAt pos; pure x), (some (eval k env), do let x ← eval e2 env; standAt pos; pure x)]) Q E s
  rw [disp_pair]
  refine wpAny_bind (wpAny_alloc ?_)
  refine wpAny_bind (wpAny_holding (wpAny_bind (wpAny_mono (h _ _ (F.push _) (N.push F _) (fun p hp => Heap.lt_size (N p hp).1) (beq_eq_false_iff_ne.mpr (Nat.ne_of_gt (Nat.lt_trans hsys F.ns.lt)))) (fun v s₁ h₁ => ?_) fun _ _ e => e)))
  refine wpAny_bind (wpAny_standAt (wpAny_pure ?_))
  obtain ⟨a, o, kvs, h', tk, news', rfl, rfl, F', N', off', ha, hy, hd, hl, r⟩ := h₁
  have hl0 : ([] : List (K × Value)).length + kvs.length ≤ sizeLine := by have : 200 ≤ sizeLine := by decide +kernel
                                                                          simp only [List.length_nil]; lia
  refine wpAny_bind (mergeStar_led F' N' off' ha hy empty_is hd hl0 fun o1 h1 d1 F1 N1 => ?_)
  rw [merged_nil_of_nodup _ (nodup_of hd)] at d1
  have Ns := N1.push F1 emptyD
  have Fs := F1.push emptyD
  have hds : s.heap.objs.size < h1.objs.size := Heap.lt_size (N1 _ List.mem_cons_self).1
  have hub : ∀ p ∈ news', p.1 < h1.objs.size := fun p hp => Heap.lt_size (N1 _ (List.mem_cons_of_mem _ hp)).1
  refine wpAny_bind (wpAny_holding (wpAny_subDict (knd := knd) (by simp) (evalPairs_cons (wpAny_mono (r o1 h1.objs.size _ tk d1 Fs Ns off' hub hds) (fun kv s₂ h₂ => wpAny_bind (wpAny_mono h₂ (fun vv s₃ h₃ => wpAny_bind (wpAny_standAt (wpAny_pure (evalPairs_nil ?_)))) fun _ _ e => e)) fun _ _ e => e))))
  obtain ⟨key, h', tk', nw', hk, rfl, F2, N2, offs2, offd2, fin⟩ := h₃
  refine ⟨[(key, vv)], ⟨hk, rfl, trivial⟩, dict_of (N2 _ List.mem_cons_self).1 empty_is, fun h3 hd3 hs3 => ?_⟩
  obtain ⟨o3, e3, d3⟩ := Heap.dictOf_iff.mp hd3
  have d3' : o3.IsDictOf knd [(key, vv)] := d3
  have F3 : Fr h₀ L h3 m := F2.change hs3 (N2 _ List.mem_cons_self).2.1 (N2 _ List.mem_cons_self).2.2
  have N3 : News h₀ L h3 ((h1.objs.size, o3) :: (s.heap.objs.size, o1) :: nw') := led_change N2 hs3 e3 ⟨Nat.ne_of_lt hds, offs2⟩
  have N3' : News h₀ L h3 ((s.heap.objs.size, o1) :: (h1.objs.size, o3) :: nw') := fun p hp => by
    rcases List.mem_cons.mp hp with rfl | hp
    · exact N3 _ (List.mem_cons_of_mem _ List.mem_cons_self)
    · rcases List.mem_cons.mp hp with rfl | hp
      · exact N3 _ List.mem_cons_self
      · exact N3 _ (List.mem_cons_of_mem _ (List.mem_cons_of_mem _ hp))
  have hys : (h1.objs.size == sysModules) = false := by
    have : L < h1.objs.size := F1.ns.lt
    exact beq_eq_false_iff_ne.mpr (Nat.ne_of_gt (Nat.lt_trans hsys this))
  have hl1 : kvs.length + [(key, vv)].length ≤ sizeLine := by have : 200 ≤ sizeLine := by decide +kernel
                                                              simp only [List.length_cons, List.length_nil]; lia
  refine wpAny_bind (mergeSub_led F3 N3' ⟨Nat.ne_of_gt hds, offd2⟩ (List.mem_cons_self) hys d1 d3' hl1 fun o4 h4 d4 F4 N4 => ?_)
  refine wpAny_pure (fin o4 h4 _ d4 F4 (fun p hp => ?_) offd2)
  rcases List.mem_cons.mp hp with rfl | hp
  · exact N4 _ List.mem_cons_self
  · exact N4 _ (List.mem_cons_of_mem _ (List.mem_cons_of_mem _ hp))

theorem star_two {e1 e2 : PySem.Expr} {pos : Pos} {news : Led} {Q : Value → Shared → Prop} (F : Fr h₀ L s.heap m) (N : News h₀ L s.heap news) (hsys : sysModules < L)
    (h : ∀ d h', Fr h₀ L h' m → News h₀ L h' ((d, emptyD) :: news) → (∀ p ∈ news, p.1 < d) → (d == sysModules) = false →
      wpAny (model prog w) A (eval e1 env) (StarT knd h₀ L m { s with heap := h' } (d, emptyD) (fun kvs nw => ∀ o1 h1 tk1, o1.IsDictOf knd kvs → Fr h₀ L h1 m → News h₀ L h1 ((d, o1) :: nw) → Off1 d nw →
        wpAny (model prog w) A (eval e2 env) (StarT knd h₀ L m { s with heap := h1, toks := tk1 } (d, o1) (fun kvs2 nw' => ∀ o2 h2 tk2, o2.IsDictOf knd (merged kvs kvs2) → Fr h₀ L h2 m → News h₀ L h2 ((d, o2) :: nw') → Off1 d nw' → Q (.ref d) { s with heap := h2, toks := tk2 })) E { s with heap := h1, toks := tk1 })) E { s with heap := h' }) :
    wpAny (model prog w) A (eval (.Dict [none, none] [e1, e2] pos) env) Q E s := by
  rw [arm_eval_Dict]
  refine wpAny_bind (wpAny_standAt ?_)
  show wpAny (model prog w) A (dictDisplay [(none, do let x ← eval e1 env; standAt pos; pure x), (none, do let x ← eval e2 env; standAt pos; pure x)]) Q E s
  rw [disp_two]
  refine wpAny_bind (wpAny_alloc ?_)
  refine wpAny_bind (wpAny_holding (wpAny_bind (wpAny_mono (h _ _ (F.push _) (N.push F _) (fun p hp => Heap.lt_size (N p hp).1) (beq_eq_false_iff_ne.mpr (Nat.ne_of_gt (Nat.lt_trans hsys F.ns.lt)))) (fun v s₁ h₁ => ?_) fun _ _ e => e)))
  refine wpAny_bind (wpAny_standAt (wpAny_pure ?_))
  obtain ⟨a, o, kvs, h', tk, news', rfl, rfl, F', N', off', ha, hy, hd, hl, r⟩ := h₁
  have hsl : 200 ≤ sizeLine := by decide +kernel
  have hl0 : ([] : List (K × Value)).length + kvs.length ≤ sizeLine := by simp only [List.length_nil]; lia
  refine wpAny_bind (mergeStar_led F' N' off' ha hy empty_is hd hl0 fun o1 h1 d1 F1 N1 => ?_)
  rw [merged_nil_of_nodup _ (nodup_of hd)] at d1
  refine wpAny_bind (wpAny_holding (wpAny_bind (wpAny_mono (r o1 h1 _ d1 F1 N1 off') (fun v s₁ h₁ => ?_) fun _ _ e => e)))
  refine wpAny_bind (wpAny_standAt (wpAny_pure ?_))
  obtain ⟨a2, o2, kvs2, h2, tk2, news2, rfl, rfl, F2, N2, off2, ha2, hy2, hd2, hl2, r2⟩ := h₁
  refine wpAny_bind (mergeStar_led F2 N2 off2 ha2 hy2 d1 hd2 (by lia) fun o3 h3 d3 F3 N3 => ?_)
  exact wpAny_pure (r2 o3 h3 _ d3 F3 N3 off2)
theorem sys_low {h : Heap} (T : Top PV LS mean mg mb h₀) (F : Fr h₀ L h m) : sysModules < L := Nat.lt_of_lt_of_le (modules_low (topRead_of T).nolimit) F.above
end
end Mine
end

section
open PySem PySem.W PyProof.Rows PySem.Spec PySem.Calls PyProof.Rows.LCg
set_option Elab.async false
set_option maxRecDepth 100000
namespace Mine
theorem ov {z x : Str} {a b c : Option Value} (h : z ≠ x) (k : b = c) : (if z = x then a else b) = c := (if_neg h).trans k
section
variable {prog : Program} {w : World} {A : Around} {E : Value → Shared → Prop} {s : Shared} {h₀ : Heap} {env : Env} {target : PySem.Expr} {body : List Stmt} {Q : Flow → Shared → Prop}
/-- a turn's end -/
inductive TurnEnd (h₀ : Heap) (L : Addr) (s₁ : Shared) (I : Addr) (it : Obj) (e : Addr × Obj) (rest : (Str → Option Value) → Led → Prop) : Shared → Prop where
  | mk {h' : Heap} {tk : Nat} {m' : Str → Option Value} {news' : Led} : Fr h₀ L h' m' → News h₀ L h' ((I, it) :: news') → Off1 I news' → e ∈ news' → rest m' news' → TurnEnd h₀ L s₁ I it e rest { s₁ with heap := h', toks := tk }
noncomputable def TurnPost (h₀ : Heap) (L : Addr) (s₁ : Shared) (I : Addr) (it : Obj) (e : Addr × Obj) (rest : (Str → Option Value) → Led → Prop) (Q : Flow → Shared → Prop) (f : Flow) (s₂ : Shared) : Prop :=
  match f with
  | .ret v => Q (.ret v) s₂
  | .brk => Q .next s₂
  | _ => TurnEnd h₀ L s₁ I it e rest s₂
theorem TurnPost.mono {h₀ : Heap} {L : Addr} {s₁ : Shared} {I : Addr} {it : Obj} {e : Addr × Obj} {rest rest' : (Str → Option Value) → Led → Prop} {Q : Flow → Shared → Prop} (k : ∀ m n, rest m n → rest' m n) {f : Flow} {s₂ : Shared} (h : TurnPost h₀ L s₁ I it e rest Q f s₂) : TurnPost h₀ L s₁ I it e rest' Q f s₂ := by
  have fin : TurnEnd h₀ L s₁ I it e rest s₂ → TurnEnd h₀ L s₁ I it e rest' s₂ := fun z => by cases z with | mk F N o he r => exact .mk F N o he (k _ _ r)
  cases f with
  | ret v => exact h
  | brk => exact h
  | next => exact fin h
  | cont => exact fin h
theorem turn_mono {L : Addr} {s₁ s₂ : Shared} {I : Addr} {it : Obj} {e : Addr × Obj} {rest rest' : (Str → Option Value) → Led → Prop} {v : Value} (k : ∀ m n, rest m n → rest' m n)
    (h : wpAny (model prog w) A (assign target env v) (fun _ s₂ => wpAny (model prog w) A (execs body env) (TurnPost h₀ L s₁ I it e rest Q) E s₂) E s₂) : wpAny (model prog w) A (assign target env v) (fun _ s₂ => wpAny (model prog w) A (execs body env) (TurnPost h₀ L s₁ I it e rest' Q) E s₂) E s₂ :=
  wpAny_mono h (fun _ _ h₂ => wpAny_mono h₂ (fun _ _ => TurnPost.mono k) fun _ _ x => x) fun _ _ x => x
theorem turn_end {h' : Heap} {L I : Addr} {it : Obj} {e : Addr × Obj} {rest : (Str → Option Value) → Led → Prop} {s₁ : Shared} {tk : Nat} {m' : Str → Option Value} {all news' : Led}
    (F : Fr h₀ L h' m') (N : News h₀ L h' all) (i : (I, it) ∈ all) (k : Cut1 I all news') (he : e ∈ news') (r : rest m' news') : TurnEnd h₀ L s₁ I it e rest { s₁ with heap := h', toks := tk } :=
  .mk F (news_at N i (N.perm k.sub)) k.off he r
noncomputable def TurnRest (prog : Program) (w : World) (A : Around) (E : Value → Shared → Prop) (h₀ : Heap) (env : Env) (target : PySem.Expr) (body : List Stmt) (Q : Flow → Shared → Prop) (s : Shared) (I : Addr) (e : Addr × Obj) : List Value → (Str → Option Value) → Led → Prop
  | [], m, news => ∀ h tk, Fr h₀ env.locals h m → News h₀ env.locals h news → Q .next { s with heap := h, toks := tk }
  | v :: r, m, news => ∀ it h tk, Fr h₀ env.locals h m → News h₀ env.locals h ((I, it) :: news) → Off1 I news →
      wpAny (model prog w) A (assign target env v) (fun _ s₂ => wpAny (model prog w) A (execs body env) (TurnPost h₀ env.locals { s with heap := h, toks := tk } I it e (fun m' n' => TurnRest prog w A E h₀ env target body Q s I e r m' n') Q) E s₂) E { s with heap := h, toks := tk }
theorem TurnRest.nil {I : Addr} {e : Addr × Obj} {m : Str → Option Value} {news : Led} (h : ∀ h tk, Fr h₀ env.locals h m → News h₀ env.locals h news → Q .next { s with heap := h, toks := tk }) :
    TurnRest prog w A E h₀ env target body Q s I e [] m news := h
theorem TurnRest.cons {I : Addr} {e : Addr × Obj} {v : Value} {r : List Value} {m : Str → Option Value} {news : Led}
    (h : ∀ it h tk, Fr h₀ env.locals h m → News h₀ env.locals h ((I, it) :: news) → Off1 I news →
      wpAny (model prog w) A (assign target env v) (fun _ s₂ => wpAny (model prog w) A (execs body env) (TurnPost h₀ env.locals { s with heap := h, toks := tk } I it e (fun m' n' => TurnRest prog w A E h₀ env target body Q s I e r m' n') Q) E s₂) E { s with heap := h, toks := tk }) :
    TurnRest prog w A E h₀ env target body Q s I e (v :: r) m news := h
theorem turn_inv {I : Addr} {e : Addr × Obj} (J : List Value → (Str → Option Value) → Led → Prop)
    (turn : ∀ v r m news it h tk, J (v :: r) m news → Fr h₀ env.locals h m → News h₀ env.locals h ((I, it) :: news) → Off1 I news →
      wpAny (model prog w) A (assign target env v) (fun _ s₂ => wpAny (model prog w) A (execs body env) (TurnPost h₀ env.locals { s with heap := h, toks := tk } I it e (fun m' n' => J r m' n') Q) E s₂) E { s with heap := h, toks := tk })
    (done : ∀ m news h tk, J [] m news → Fr h₀ env.locals h m → News h₀ env.locals h news → Q .next { s with heap := h, toks := tk }) :
    ∀ (vs : List Value) (m : Str → Option Value) (news : Led), J vs m news → TurnRest prog w A E h₀ env target body Q s I e vs m news
  | [], m, news, h => fun g tk F N => done m news g tk h F N
  | v :: r, m, news, h => fun it g tk F N off => turn_mono (fun m' n' j => turn_inv J turn done r m' n' j) (turn v r m news it g tk h F N off)
theorem turns_items {I : Addr} {c : String} {e : Addr × Obj} : ∀ (vs : List Value) (m : Str → Option Value) (news : Led), Off1 I news → TurnRest prog w A E h₀ env target body Q s I e vs m news → ItemsRest prog w A E h₀ env target body Q s [(I, c)] [e] (vs.map .val) m news
  | [], _, _, _, h => h
  | v :: r, m, news, off, h => by
    refine ItemsRest.val fun g tk F => AllObj.cons fun it _ => AllObj.nil fun N => ?_
    have N' : News h₀ env.locals g ((I, it) :: news) := N
    refine wpAny_mono (h it g tk F N' off) (fun _ s₂ h₂ => wpAny_mono h₂ (fun f s₃ p => ?_) fun _ _ x => x) fun _ _ x => x
    have fin : TurnEnd h₀ env.locals { s with heap := g, toks := tk } I it e (fun m' n' => TurnRest prog w A E h₀ env target body Q s I e r m' n') s₃ →
        UnrEndW h₀ env.locals { s with heap := g, toks := tk } [(I, it)] (fun m' n' => SubL [e] n' ∧ ItemsRest prog w A E h₀ env target body Q s [(I, c)] [e] (r.map .val) m' n') s₃ := fun z => by
      cases z with
      | mk F' N' o' he j => exact ⟨_, _, _, _, rfl, F', N', fun p hp q hq => by rw [List.mem_singleton.mp hq]; exact off1_mem o' p hp, And.intro he trivial, turns_items r _ _ o' j⟩
    cases f with
    | ret v => exact p
    | brk => exact p
    | next => exact fin p
    | cont => exact fin p
theorem for_list {ax : Addr} {its : List Value} {n : Nat} {m₀ : Str → Option Value} {news : Led} (hh : A.handled = none) (F : Fr h₀ env.locals s.heap m₀) (N : News h₀ env.locals s.heap news) (hm : (ax, cellsO its n) ∈ news)
    (rest : ∀ I : Addr, (∀ p ∈ news, p.1 < I) → TurnRest prog w A E h₀ env target body Q s I (ax, cellsO its n) its m₀ news) :
    wpAny (model prog w) A (pyIter (.ref ax)) (fun it s₂ => TurnsAt prog w A h₀ env target body Q E it s₂) E s :=
  iter_listTurns hh F N hm rfl rfl fun I hI => turns_items its m₀ news (off1_of fun p hp => Nat.ne_of_lt (hI p hp)) (rest I hI)
theorem for_tup {ax : Addr} {its : List Value} {n : Nat} {m₀ : Str → Option Value} {news : Led} (hh : A.handled = none) (F : Fr h₀ env.locals s.heap m₀) (N : News h₀ env.locals s.heap news) (hm : (ax, tupO its n) ∈ news)
    (rest : ∀ I : Addr, (∀ p ∈ news, p.1 < I) → TurnRest prog w A E h₀ env target body Q s I (ax, tupO its n) its m₀ news) :
    wpAny (model prog w) A (pyIter (.ref ax)) (fun it s₂ => TurnsAt prog w A h₀ env target body Q E it s₂) E s :=
  iter_tupTurns hh F N hm rfl rfl fun I hI => turns_items its m₀ news (off1_of fun p hp => Nat.ne_of_lt (hI p hp)) (rest I hI)
end
theorem ordU {a b c : Led} (h : ∀ q ∈ a, ∀ p ∈ c, q.1 < p.1) (h' : ∀ q ∈ b, ∀ p ∈ c, q.1 < p.1) : ∀ q ∈ a ++ b, ∀ p ∈ c, q.1 < p.1 := fun q hq => (List.mem_append.mp hq).elim (h q) (h' q)
theorem allLt_cons {d : Addr} {e : Addr × Obj} {l : Led} (h : @LT.lt Nat _ e.1 d) (k : AllLt d l) : AllLt d (e :: l) := ⟨h, k⟩
theorem Ends.both {news l tl : Led} {e : Addr × Obj} (h : ∀ p ∈ tl, e.1 < p.1) (k : Ends news l tl) : Ends (e :: news) (e :: l) tl :=
  ⟨fun p hp => by
    rcases List.mem_cons.mp hp with rfl | hp
    · exact .head _
    · exact .tail _ (k.sub p hp), fun q hq p hp => by
    rcases List.mem_cons.mp hq with rfl | hq
    · exact h p hp
    · exact k.ord q hq p hp⟩
theorem Ends.two {news l tl : Led} {e : Addr × Obj} (k : Ends news l tl) (h : ∀ p ∈ tl, e.1 < p.1) : Ends (e :: news) (e :: l) tl := Ends.both h k
section
variable {M : Model} {A : Around} {E : Value → Shared → Prop} {s : Shared} {h₀ : Heap} {L a : Addr} {m : Str → Option Value} {cn : Str} {cs : Scope} {ccd : Value} {cl : List (Str × Addr)} {x : Str} {v : Value} {Q : Unit → Shared → Prop} {all l1 : Led} {c : Addr} {o : Obj} {v₀ : Option Value}
theorem off1_all {D : Addr} {l : Led} (h : AllLt D l) : Off1 D l := off1_of fun p hp => Nat.ne_of_lt (ktn_ltOf h p hp)
theorem off1_up {D e : Addr} {l : Led} (h : AllLt D l) (k : D ≤ e) : Off1 e l := off1_of fun p hp => Nat.ne_of_lt (Nat.lt_of_lt_of_le (ktn_ltOf h p hp) k)
theorem store_cell (F : Fr h₀ L s.heap m) (N : News h₀ L s.heap all) (hc : cl.lookup x = some c) (hm : (c, o) ∈ all) (k : Cut1 c all l1) (hd : o.data = .cell v₀)
    (h : ∀ h' o', Fr h₀ L h' m → News h₀ L h' ((c, o') :: l1) → o'.data = .cell (some v) → Q () { s with heap := h' })
    (hk : cs.kind = .function) (hx : (envX cn cs L a ccd cl).kindOf x = some .cell) : wpAny M A (storeName (envX cn cs L a ccd cl) x v) Q E s := by
  have hmem := N _ hm
  refine wpAny_storeName_cell hk hx hc ⟨o, hmem.1, hd⟩ fun h' hv hs => ?_
  obtain ⟨o', ho', hd'⟩ := hv
  refine h h' o' ⟨F.ns.sameBut hs (Ne.symm hmem.2.1), fun b ob e => (hs.2 b (fun q => ?_)).trans (F.keep b ob e), F.above⟩ (fun p hp => ?_) hd'
  · rw [q, hmem.2.2] at e; cases e
  · rcases List.mem_cons.mp hp with rfl | hp
    · exact ⟨ho', hmem.2⟩
    · exact ⟨hs.extBut _ _ (off1_mem k.off p hp) (N _ (k.sub _ hp)).1, (N _ (k.sub _ hp)).2⟩
end
end Mine
end

section
open PySem PySem.W PyProof.Rows PySem.Spec PySem.Calls
set_option Elab.async false
set_option maxRecDepth 100000
namespace Mine
/-- items xk: a, xk+1: b .. of a dict -/
inductive KV : Nat → List Int → List (Str × Value) → Prop
  | nil {n} : KV n [] []
  | cons {n a t e kvs} : KV (n + 1) e kvs → KV n (a :: e) ((xname n, .int a t) :: kvs)
theorem x_inj : ∀ {i j : Nat}, i < 9 → j < 9 → xname i = xname j → i = j := by
  intro i j hi hj
  have h : ∀ i, i < 9 → ∀ j, j < 9 → xname i = xname j → i = j := by decide +kernel
  exact h i hi j hj
theorem KV.length {n : Nat} {e : List Int} {kvs : List (Str × Value)} (h : KV n e kvs) : kvs.length = e.length := by
  induction h with
  | nil => rfl
  | cons _ ih => simp [ih]
theorem KV.le {n : Nat} {e : List Int} {kvs : List (Str × Value)} (h : KV n e kvs) (hn : n + e.length ≤ 8) : kvs.length ≤ 100 := by rw [h.length]; lia
theorem KV.append {n : Nat} {e e' : List Int} {kvs kvs' : List (Str × Value)} (h : KV n e kvs) (h' : KV (n + e.length) e' kvs') : KV n (e ++ e') (kvs ++ kvs') := by
  induction h with
  | nil => simpa using h'
  | @cons n a t e kvs _ ih => exact .cons (ih (by rw [List.length_cons] at h'; rwa [show n + (e.length + 1) = n + 1 + e.length by lia] at h'))
theorem KV.snoc {n : Nat} {e : List Int} {a : Int} {t : Tok} {kvs : List (Str × Value)} (h : KV n e kvs) : KV n (e ++ [a]) (kvs ++ [(xname (n + e.length), .int a t)]) := h.append (.cons .nil)
theorem KV.mem {n : Nat} {e : List Int} {kvs : List (Str × Value)} (h : KV n e kvs) {x : Str} (hx : x ∈ kvs.map (·.1)) : ∃ i, n ≤ i ∧ i < n + e.length ∧ x = xname i := by
  induction h with
  | nil => exact absurd hx (by simp)
  | @cons n a t e kvs _ ih =>
    rcases List.mem_cons.mp hx with rfl | hx
    · exact ⟨n, Nat.le_refl _, by simp, rfl⟩
    · obtain ⟨i, h1, h2, h3⟩ := ih hx
      exact ⟨i, by lia, by simp only [List.length_cons]; lia, h3⟩
theorem KV.nodup {n : Nat} {e : List Int} {kvs : List (Str × Value)} (h : KV n e kvs) (hn : n + e.length ≤ 9) : (kvs.map (·.1)).Nodup := by
  induction h with
  | nil => simp
  | @cons n a t e kvs r ih =>
    simp only [List.length_cons] at hn
    rw [List.map_cons, List.nodup_cons]
    refine ⟨fun hm => ?_, ih (by lia)⟩
    obtain ⟨i, h1, h2, h3⟩ := r.mem hm
    have := x_inj (by lia) (by lia) h3
    lia
theorem KV.value {n : Nat} {e : List Int} {kvs : List (Str × Value)} (h : KV n e kvs) (hn : n + e.length ≤ 9) {i : Nat} (hi : i < e.length) : ∃ t, valueAt kvs (xname (n + i)) = some (.int (e.getD i 7) t) := by
  induction h generalizing i with
  | nil => exact absurd hi (by simp)
  | @cons n a t e kvs r ih =>
    simp only [List.length_cons] at hn hi
    cases i with
    | zero => exact ⟨t, by simp [valueAt]⟩
    | succ i =>
      obtain ⟨u, hu⟩ := ih (by lia) (i := i) (by lia)
      refine ⟨u, ?_⟩
      have hne : ¬ xname n = xname (n + (i + 1)) := fun q => by have := x_inj (by lia) (by lia) q; lia
      have e1 : n + (i + 1) = n + 1 + i := by lia
      rw [e1] at hne ⊢
      simp only [valueAt, List.find?_cons, hne, decide_false, List.getD_cons_succ] at hu ⊢
      exact hu
theorem KV.stored {n : Nat} {e : List Int} {v : Value} {kvs : List (Str × Value)} (h : KV n e kvs) (hn : n + e.length < 9) : stored kvs (xname (n + e.length)) v = kvs ++ [(xname (n + e.length), v)] := by
  unfold PySem.stored
  rw [if_neg]
  rw [List.any_eq_true]
  rintro ⟨kv, hk, he⟩
  obtain ⟨i, h1, h2, h3⟩ := h.mem (List.mem_map.mpr ⟨kv, hk, rfl⟩)
  have e1 : kv.1 = xname (n + e.length) := of_decide_eq_true he
  have := x_inj (by lia) (by lia) (h3.symm.trans e1)
  lia
theorem KV.merged {n : Nat} {e e' : List Int} {kvs kvs' : List (Str × Value)} (h : KV n e kvs) (h' : KV (n + e.length) e' kvs') (hn : n + e.length + e'.length ≤ 9) : merged kvs kvs' = kvs ++ kvs' :=
  merged_append_of_fresh _ _ ((h.append h').nodup (by simp; lia))
/-- a dict of the ledger with the items xn: a .. -/
inductive DIn (w : World) (news : Led) : Value → Nat → List Int → Prop where
  | mk {a : Addr} {o : Obj} {kvs : List (Str × Value)} {n : Nat} {e : List Int} : (a, o) ∈ news → (a == sysModules) = false → o.IsDictOf (SK w) kvs → KV n e kvs → n + e.length ≤ 8 → DIn w news (.ref a) n e
theorem DIn.mono {w : World} {news news' : Led} {v : Value} {n : Nat} {e : List Int} (h : DIn w news v n e) (hs : Sub news news') : DIn w news' v n e := by
  cases h with | mk a b c d f => exact .mk (hs _ a) b c d f
/-- rows: such dicts -/
inductive RowsIn (w : World) (news : Led) (n : Nat) : List Value → List (List Int) → Prop where
  | nil : RowsIn w news n [] []
  | cons {v : Value} {e : List Int} {vs : List Value} {es : List (List Int)} : DIn w news v n e → RowsIn w news n vs es → RowsIn w news n (v :: vs) (e :: es)
theorem RowsIn.mono {w : World} {news news' : Led} {n : Nat} {vs : List Value} {es : List (List Int)} (h : RowsIn w news n vs es) (hs : Sub news news') : RowsIn w news' n vs es := by
  induction h with
  | nil => exact .nil
  | cons a _ ih => exact .cons (a.mono hs) ih
theorem RowsIn.length {w : World} {news : Led} {n : Nat} {vs : List Value} {es : List (List Int)} (h : RowsIn w news n vs es) : vs.length = es.length := by
  induction h with
  | nil => rfl
  | cons _ _ ih => simp [ih]
theorem RowsIn.snoc {w : World} {news : Led} {n : Nat} {vs : List Value} {es : List (List Int)} {v : Value} {e : List Int} (h : RowsIn w news n vs es) (d : DIn w news v n e) : RowsIn w news n (vs ++ [v]) (es ++ [e]) := by
  induction h with
  | nil => exact .cons d .nil
  | cons a _ ih => exact .cons a ih
theorem RowsIn.get {w : World} {news : Led} {n : Nat} {vs : List Value} {es : List (List Int)} {i : Nat} {v : Value} (h : RowsIn w news n vs es) (hv : vs[i]? = some v) : ∃ e, es[i]? = some e ∧ DIn w news v n e := by
  induction h generalizing i with
  | nil => exact absurd hv (by simp)
  | cons a _ ih =>
    cases i with
    | zero => simp only [List.getElem?_cons_zero, Option.some.injEq] at hv ⊢; exact ⟨_, rfl, hv ▸ a⟩
    | succ i => simp only [List.getElem?_cons_succ] at hv ⊢; exact ih hv
/-- the two sets -/
inductive SetsIn (news : Led) : Value → (Int → List Int) → Prop where
  | mk {a b0 b1 : Addr} {n n0 n1 : Nat} {v0 v1 : List Value} {S : Int → List Int} : (a, cellsO [.ref b0, .ref b1] n) ∈ news → (b0, cellsO v0 n0) ∈ news → (b1, cellsO v1 n1) ∈ news → IntsAre v0 (S 0) → IntsAre v1 (S 1) →
      (S 0).length ≤ 2 → (S 1).length ≤ 2 → SetsIn news (.ref a) S
theorem SetsIn.mono {news news' : Led} {v : Value} {S : Int → List Int} (h : SetsIn news v S) (hs : Sub news news') : SetsIn news' v S := by
  cases h with | mk a b c d e f g => exact .mk (hs _ a) (hs _ b) (hs _ c) d e f g
theorem SetsIn.le {news : Led} {v : Value} {S : Int → List Int} {r : Int} (h : SetsIn news v S) (hr : isRel r) : (S r).length ≤ 2 := by
  cases h with | mk a b c d e f g =>
  obtain rfl | rfl : r = 0 ∨ r = 1 := by have := hr.1; have := hr.2; lia
  · exact f
  · exact g
/-- the set r -/
inductive SetIn (news : Led) : Value → List Int → Prop where
  | mk {b : Addr} {n : Nat} {vs : List Value} {xs : List Int} : (b, cellsO vs n) ∈ news → IntsAre vs xs → xs.length ≤ 2 → SetIn news (.ref b) xs
theorem SetIn.mono {news news' : Led} {v : Value} {S : List Int} (h : SetIn news v S) (hs : Sub news news') : SetIn news' v S := by
  cases h with | mk a b c => exact .mk (hs _ a) b c
section
variable {prog : Program} {w : World} {A : Around} {E : Value → Shared → Prop} {s : Shared} {h₀ : Heap} {L : Addr} {news : Led} {Q : Value → Shared → Prop}
theorem item_sets {nr : Led} {v : Value} {S : Int → List Int} {r : Int} {u : Tok} {value slice : PySem.Expr} (N : News h₀ L s.heap news) (hS : SetsIn nr v S) (hs : Sub nr news) (hr : isRel r) (h : ∀ v', SetIn nr v' (S r) → Q v' s)
    (he : ∀ a, subscripted slice false (.ref a) (.int r u) = operate [.ref a, .int r u] (getItem (.ref a) (.int r u)) := by intro _; with_unfolding_all rfl) :
    wpAny (model prog w) A (subscriptTail value slice v (.int r u)) Q E s := by
  cases hS with
  | @mk a b0 b1 n n0 n1 v0 v1 S ma m0 m1 i0 i1 l0 l1 =>
    have hl : s.heap.IsList a [Value.ref b0, .ref b1].toArray := News.isList N (hs _ ma)
    obtain rfl | rfl : r = 0 ∨ r = 1 := by have := hr.1; have := hr.2; lia
    · exact tail_any hl.typeIs slot_list_getitem.lookup (wpAny_getItem_list hl (by decide) (by decide) (by rfl) (h _ (.mk m0 i0 l0))) (he a)
    · exact tail_any hl.typeIs slot_list_getitem.lookup (wpAny_getItem_list hl (by decide) (by decide) (by rfl) (h _ (.mk m1 i1 l1))) (he a)
end
theorem grow_succ {es : List (List Int)} {xs : List Int} {i : Nat} {e : List Int} (h : es[i]? = some e) : grow (es.take (i + 1)) xs = grow (es.take i) xs ++ xs.map fun a => e ++ [a] := by
  unfold grow
  rw [List.take_add_one, h, List.flatMap_append]
  simp
theorem grow_len (es : List (List Int)) (xs : List Int) : (grow es xs).length = es.length * xs.length := by
  unfold grow
  induction es with
  | nil => simp
  | cons e es ih => rw [List.flatMap_cons, List.length_append, ih, List.length_map, List.length_cons, Nat.succ_mul, Nat.add_comm]
theorem grow_le {es : List (List Int)} {xs : List Int} {a b : Nat} (h : es.length ≤ a) (k : xs.length ≤ b) : (grow es xs).length ≤ a * b := by rw [grow_len]; exact Nat.mul_le_mul h k
theorem grow_mem {es : List (List Int)} {xs : List Int} {n : Nat} (h : ∀ e ∈ es, e.length = n) : ∀ e ∈ grow es xs, e.length = n + 1 := by
  intro e he
  obtain ⟨e', he', hm⟩ := List.mem_flatMap.mp he
  obtain ⟨a, _, rfl⟩ := List.mem_map.mp hm
  rw [List.length_append, h e' he']; rfl
theorem ends_led {base l tl : Led} (e : Ends base l tl) {P : Addr × Obj → Prop} (h : ∀ p ∈ l, P p) : ∀ p ∈ base ++ tl, P p := fun p hp => h p (e.sub p hp)
section
variable {prog : Program} {w : World} {A : Around} {E : Value → Shared → Prop} {s : Shared} {h₀ : Heap} {L : Addr} {m : Str → Option Value} {env : Env}
/-- the inner source's value -/
inductive RowsSrc (s₁ : Shared) (base : Led) (xs : List Int) (xv : Value) : Shared → Prop where
  | mk {tk : Nat} : SetIn base xv xs → RowsSrc s₁ base xs xv { s₁ with toks := tk }
theorem rows_set {s₁ : Shared} {nr base : Led} {xs : List Int} {xv : Value} {tk : Nat} (h : SetIn nr xv xs) (hs : Sub nr base) : RowsSrc s₁ base xs xv { s₁ with toks := tk } := .mk (h.mono hs)
/-- the element's end: a new row -/
inductive RowsEnd (w : World) (h₀ : Heap) (L : Addr) (m : Str → Option Value) (s₁ : Shared) (I2 : Addr) (oI2 : Obj) (I : Addr) (oI : Obj) (C : Addr) (oC : Obj) (D : Addr) (oD : Obj) (base tl : Led) (n : Nat) (e : List Int) (yv : Value) : Shared → Prop where
  | mk {h' : Heap} {tk : Nat} {tl' : Led} : Fr h₀ L h' m → News h₀ L h' ((I2, oI2) :: (I, oI) :: (C, oC) :: (D, oD) :: (base ++ tl')) → Sub tl tl' → (∀ q ∈ base, ∀ p ∈ tl', q.1 < p.1) → LCg.Off3 I C D (base ++ tl') → LCg.Off1 I2 (base ++ tl') → DIn w tl' yv n e →
      RowsEnd w h₀ L m s₁ I2 oI2 I oI C oC D oD base tl n e yv { s₁ with heap := h', toks := tk }
theorem rows_end {s₁ : Shared} {I2 I C D : Addr} {oI2 oI oC oD : Obj} {base tl tl' all l1 l2 : Led} {n : Nat} {e : List Int} {yv : Value} {h' : Heap} {tk : Nat} (F : Fr h₀ L h' m) (N : News h₀ L h' all) (i2 : (I2, oI2) ∈ all) (i : (I, oI) ∈ all) (c : (C, oC) ∈ all) (d : (D, oD) ∈ all)
    (k : Cut I C D all l1) (k1 : Cut1 I2 l1 l2) (en : Ends base l2 tl') (hs : Sub tl tl') (hd : DIn w tl' yv n e) : RowsEnd w h₀ L m s₁ I2 oI2 I oI C oC D oD base tl n e yv { s₁ with heap := h', toks := tk } :=
  .mk F (news_at N i2 (news_at N i (news_at N c (news_at N d (N.perm fun p hp => k.sub _ (k1.sub _ (en.sub _ hp)))))))
    hs en.ord (LCg.Off3.of (ends_led en fun p hp => k.off.mem p (k1.sub _ hp))) (off1_of (ends_led en fun p hp => off1_mem k1.off p hp)) hd
inductive RowsJ (w : World) (base : Led) (n : Nat) (es : List (List Int)) (xs : List Int) (i : Nat) (ys : List Value) : Led → Prop where
  | mk {tl : Led} : (∀ q ∈ base, ∀ p ∈ tl, q.1 < p.1) → RowsIn w tl n ys (grow (es.take i) xs) → RowsJ w base n es xs i ys (base ++ tl)
inductive RowsK (w : World) (base : Led) (n : Nat) (es : List (List Int)) (xs : List Int) (i : Nat) (its2 : List Value) (j : Nat) (ys : List Value) : Led → Prop where
  | mk {tl : Led} {e : List Int} : IntsAre its2 xs → (∀ q ∈ base, ∀ p ∈ tl, q.1 < p.1) → es[i]? = some e → RowsIn w tl n ys (grow (es.take i) xs ++ (xs.take j).map fun a => e ++ [a]) → RowsK w base n es xs i its2 j ys (base ++ tl)
theorem RowsIn.at {w : World} {news : Led} {n i : Nat} {vs : List Value} {es : List (List Int)} {v : Value} {P : Prop} (h : RowsIn w news n vs es) (hv : vs[i]? = some v) (k : ∀ e, es[i]? = some e → DIn w news v n e → P) : P := let ⟨e, a, b⟩ := h.get hv; k e a b
theorem ints_at {vs : List Value} {ns : List Int} {i : Nat} {x : Int} {P : Prop} (h : IntsAre vs ns) (e : ns[i]? = some x) (k : ∀ t, vs[i]? = some (.int x t) → P) : P := let ⟨t, q⟩ := h.get i x e; k t q
theorem rows_nil {w : World} {base : Led} {n : Nat} {es : List (List Int)} {xs : List Int} : RowsJ w base n es xs 0 [] base := by
  have := RowsJ.mk (w := w) (base := base) (n := n) (es := es) (xs := xs) (i := 0) (ys := []) (tl := []) (fun _ _ _ h => nomatch h) (by simpa [grow] using RowsIn.nil)
  rwa [List.append_nil] at this
theorem rows_step {w : World} {tl tl' : Led} {n j : Nat} {ys : List Value} {yv : Value} {b : List (List Int)} {xs e : List Int} (hj : j < xs.length) (hr : RowsIn w tl n ys (b ++ (xs.take j).map fun a => e ++ [a])) (hs : Sub tl tl') (hd : DIn w tl' yv n (e ++ [xs[j]])) :
    RowsIn w tl' n (ys ++ [yv]) (b ++ (xs.take (j + 1)).map fun a => e ++ [a]) := by
  have q : (xs.take (j + 1)).map (fun a => e ++ [a]) = (xs.take j).map (fun a => e ++ [a]) ++ [e ++ [xs[j]]] := by
    rw [List.take_add_one, List.getElem?_eq_getElem hj, List.map_append]; rfl
  rw [q, ← List.append_assoc]
  exact (hr.mono hs).snoc hd
theorem rows_few {w : World} {tl : Led} {n i j : Nat} {ys : List Value} {es : List (List Int)} {xs e : List Int} (hr : RowsIn w tl n ys (grow (es.take i) xs ++ (xs.take j).map fun a => e ++ [a])) (hei : es[i]? = some e) (hsz : (grow es xs).length ≤ 100) (hxs : xs.length ≤ 10) : ys.length ≤ 1000 := by
  have h1 := hr.length
  have h2 : grow es xs = grow (es.take (i + 1)) xs ++ grow (es.drop (i + 1)) xs := by
    rw [grow, grow, grow, ← List.flatMap_append, List.take_append_drop]
  have h3 : (grow (es.take i) xs).length ≤ (grow es xs).length := by rw [h2, grow_succ hei]; simp only [List.length_append]; lia
  have h4 : ((xs.take j).map fun a => e ++ [a]).length ≤ xs.length := by rw [List.length_map, List.length_take]; lia
  rw [List.length_append] at h1
  lia
theorem din_store {led : Led} {d : Addr} {o : Obj} {kvs : List (Str × Value)} {n len : Nat} {e : List Int} {a : Int} {t : Tok} (hk : KV n e kvs) (hl : e.length = len) (hn : n + len < 8) (ho : o.IsDictOf (SK w) (stored kvs (xname (n + len)) (.int a t))) (hm : (d, o) ∈ led) (hy : (d == sysModules) = false) : DIn w led (.ref d) n (e ++ [a]) := by
  subst hl
  rw [hk.stored (by lia)] at ho
  exact .mk hm hy ho hk.snoc (by simp only [List.length_append, List.length_singleton]; lia)
theorem rows_src {elt it2 : PySem.Expr} {x y : Str} {scope : Scope} {cl : List (Str × Addr)} {Fin : Shared → Led → List Value → Led → Prop} {ax : Addr} {its : List Value} {k n : Nat} {base : Led} {s₁ : Shared} {es : List (List Int)} {xs : List Int}
    (hh : A.handled = none) (F : Fr h₀ L s₁.heap m) (N : News h₀ L s₁.heap base) (hm : (ax, cellsO its k) ∈ base) (hR : RowsIn w base n its es) (hsz : (grow es xs).length ≤ 100) (hxs : xs.length ≤ 10) {len : Nat} (hlen : ∀ e ∈ es, e.length = len)
    (outer : ∀ v e ys tl I oI C oC D m₂ h tk (E' : Value → Shared → Prop), DIn w base v n e → (∀ q ∈ base, ∀ p ∈ tl, q.1 < p.1) → LCg.NsObj oC m₂ → m₂ x = some v → Fr h₀ L h m → News h₀ L h ((I, oI) :: (C, oC) :: (D, LCg.lst ys) :: (base ++ tl)) → LCg.Off3 I C D (base ++ tl) → ((@Ne Nat I C) ∧ (@Ne Nat I D) ∧ (@Ne Nat C D)) →
      wpAny (model prog w) A (eval it2 (compEnvC scope cl C env)) (RowsSrc { s₁ with heap := h, toks := tk } base xs) E' { s₁ with heap := h, toks := tk })
    (inner : ∀ v e a t ys tl I2 oI2 I oI C oC D m₂ h tk (E' : Value → Shared → Prop), DIn w base v n e → e.length = len → (∀ q ∈ base, ∀ p ∈ tl, q.1 < p.1) → LCg.NsObj oC m₂ → m₂ x = some v → m₂ y = some (.int a t) → Fr h₀ L h m →
      News h₀ L h ((I2, oI2) :: (I, oI) :: (C, oC) :: (D, LCg.lst ys) :: (base ++ tl)) → LCg.Off3 I C D (base ++ tl) → LCg.Off1 I2 (base ++ tl) → ((@Ne Nat I C) ∧ (@Ne Nat I D) ∧ (@Ne Nat C D)) → ((@Ne Nat I2 I) ∧ (@Ne Nat I2 C) ∧ (@Ne Nat I2 D)) →
      wpAny (model prog w) A (eval elt (compEnvC scope cl C env)) (RowsEnd w h₀ L m { s₁ with heap := h, toks := tk } I2 oI2 I oI C oC D (LCg.lst ys) base tl n (e ++ [a])) E' { s₁ with heap := h, toks := tk })
    (fin : ∀ g ys tl, RowsIn w tl n ys (grow es xs) → (∀ q ∈ base, ∀ p ∈ tl, q.1 < p.1) → Fin { s₁ with heap := g } base ys (base ++ tl)) :
    TwoSrc prog w A h₀ L m env elt it2 x y scope cl Fin (.ref ax) s₁ := by
  refine TwoSrc.ledger (RowsJ w base n es xs) (RowsK w base n es xs) hh F N hm fun g => ⟨?_, ?_, ?_, ?_, ?_, ?_⟩
  · exact rows_nil
  · intro i v ys nw I oI C oC D m₂ h tk E' hv hJ
    cases hJ with
    | @mk tl ho hr =>
      intro he hC hx F' N' off nes
      refine hR.at hv fun e hei hde => wpAny_mono (outer v e ys tl I oI C oC D m₂ h tk E' hde ho hC hx F' N' off nes) (fun xv s₂ h₂ => ?_) fun _ _ z => z
      cases h₂ with
      | mk hS =>
        cases hS with
        | mk hb hi hl => exact .mk F' N' off he (List.mem_append.mpr (.inl hb)) (.mk hi ho hei (by simpa using hr))
  · intro i v its2 j u ys nw e2 I2 oI2 I oI C oC D m₂ h tk E' hv hu hK
    cases hK with
    | @mk tl e hi ho hei hr =>
      intro he he2 hC hx hy F' N' off off1 nes nes2
      have hj : j < xs.length := hi.length ▸ (List.getElem?_eq_some_iff.mp hu).1
      refine hR.at hv fun e' hei' hde => ?_
      have hde' : DIn w base v n e := Option.some.inj (hei'.symm.trans hei) ▸ hde
      refine ints_at hi (getElem?_pos xs j hj) fun t ht => wpAny_mono (inner v e xs[j] t ys tl I2 oI2 I oI C oC D m₂ h tk E' hde' (hlen _ (List.mem_of_getElem? hei)) ho hC hx (hy.trans (hu.symm.trans ht)) F' N' off off1 nes nes2) (fun yv s₂ h₂ => ?_) fun _ _ z => z
      cases h₂ with
      | mk F2 N2 hs2 ho2 off2 off12 hd2 =>
        exact .mk F2 N2 off2 off12 (Sub.app (Sub.left Sub.refl) (Sub.right hs2) _ he) (Sub.app (Sub.left Sub.refl) (Sub.right hs2) _ he2) (.mk hi ho2 hei (rows_step hj hr hs2 hd2))
  · intro i its2 ys nw hK
    cases hK with
    | mk hi ho hei hr =>
      rw [hi.length, List.take_length] at hr
      exact .mk ho (grow_succ hei ▸ hr)
  · intro i its2 j ys nw hK
    cases hK with
    | mk hi ho hei hr => exact rows_few hr hei hsz hxs
  · intro ys nw hJ
    cases hJ with
    | mk ho hr =>
      rw [hR.length, List.take_length] at hr
      exact fin g _ _ hr ho
end
/-- first name, relations, sets -/
noncomputable abbrev RowD := Nat × List Int × (Int → List Int)
inductive RowRel (news : Led) : List Value → RowD → Prop where
  | mk {u : Addr} {vs : List Value} {n : Nat} {sv : Value} {k : Nat} {rs : List Int} {S : Int → List Int} : (u, tupO vs n) ∈ news → DecsIn news vs k rs → rs.length ≤ 2 → k + rs.length ≤ 7 → SetsIn news sv S → RowRel news [.ref u, sv] (k, rs, S)
noncomputable abbrev rowSize (_ : RowD) : Nat := 12
noncomputable abbrev rowSpec (d : RowD) : List (List Int) := rowsE d.2.2 d.2.1 [[]]
noncomputable abbrev rowOut (w : World) (news : Led) (r : Value) (d : RowD) : Prop := ∃ a vs n, r = .ref a ∧ (a, cellsO vs n) ∈ news ∧ RowsIn w news d.1 vs (rowSpec d)
end Mine
end

section
open PySem PySem.W PyProof.Rows PySem.Spec PySem.Calls
set_option Elab.async false
set_option maxRecDepth 100000
namespace Mine
section
variable {prog : Program} {w : World} {A : Around} {E : Value → Shared → Prop} {s : Shared} {h₀ : Heap} {L : Addr} {m : Str → Option Value} {news : Led} {Q : Value → Shared → Prop}
theorem set_at {nr : Led} {v : Value} {S : Int → List Int} {r : Int} {u : Tok} {value slice : PySem.Expr} (N : News h₀ L s.heap news) (hS : SetsIn nr v S) (hs : Sub nr news) (hr : isRel r)
    (h : ∀ b n vs, (b, cellsO vs n) ∈ nr → IntsAre vs (S r) → (S r).length ≤ 2 → Q (.ref b) s)
    (he : ∀ a, subscripted slice false (.ref a) (.int r u) = operate [.ref a, .int r u] (getItem (.ref a) (.int r u)) := by intro _; with_unfolding_all rfl) :
    wpAny (model prog w) A (subscriptTail value slice v (.int r u)) Q E s :=
  item_sets N hS hs hr (fun v' h' => by cases h' with | mk a b c => exact h _ _ _ a b c) he
theorem env_at {Q : Value → Shared → Prop} {nr : Led} {v : Value} {e : List Int} {k : Nat} {t : Tok} {value slice : PySem.Expr} {s : Shared} {A : Around} {E : Value → Shared → Prop} (N : News h₀ L s.heap news) (hD : DIn w nr v 0 e) (hs : Sub nr news) (hk : k < e.length)
    (h : ∀ u, Q (.int (e.getD k 7) u) { s with toks := s.toks + 1 })
    (he : ∀ a x t, subscripted slice false (.ref a) (.str x t) = operate [.ref a, .str x t] (getItem (.ref a) (.str x t)) := by intro _ _ _; with_unfolding_all rfl) :
    wpAny (model PySem.Challenge.rw_rr0087_01.row.prog w) A (subscriptTail value slice v (.str (xname k) t)) Q E s := by
  cases hD with
  | @mk a o kvs n e hm hy ho hkv hn =>
    obtain ⟨u, hu⟩ := hkv.value (by lia) hk
    rw [Nat.zero_add] at hu
    have hd := dict_of (N _ (hs _ hm)).1 ho
    exact tail_any hd.typeIs slot_dict_getitem.lookup (wpAny_getItem_of (strKind_is _ _ _ _) hd.mapOf hu (h u)) (he a _ t)
theorem ints_reads {h : Heap} : ∀ {vs : List Value} {ns : List Int}, IntsAre vs ns → ∃ as, ReadsAll h vs (ns.map PyData.int) as
  | _, _, .nil => ⟨_, ReadsAll.nil⟩
  | _, _, .cons _ _ r => let ⟨_, q⟩ := ints_reads r; ⟨_, ReadsAll.cons (Reads.int _ _) q⟩
theorem ints_lay (ns : List Int) : PyData.canLayAll0 (ns.map PyData.int) = true := by
  induction ns with
  | nil => rw [List.map_nil, PyData.canLayAll0]
  | cons n ns ih => rw [List.map_cons, PyData.canLayAll0, ih, PyData.canLay0]; rfl
theorem ints_deep (ns : List Int) : PyData.depthAll (ns.map PyData.int) = 0 := by
  induction ns with
  | nil => rw [List.map_nil, PyData.depthAll]
  | cons n ns ih => rw [List.map_cons, PyData.depthAll, ih, PyData.depth]; rfl
theorem ints_shaped (ns : List Int) : SeqAt.shaped (.list (ns.map PyData.int)) = true :=
  Bool.and_eq_true_iff.mpr ⟨by rw [PyData.canLay0]; exact ints_lay ns, decide_eq_true (by rw [PyData.depth, ints_deep]; decide)⟩
theorem set_some {a b : Addr} {vs : List Value} {ns : List Int} {k kb : Nat} (N : News h₀ L s.heap news) (ha : (a, cellsO vs k) ∈ news) (hv : IntsAre vs ns) (hb : (b, cellsO [] kb) ∈ news) (hu : A.units + 64 < cLine) (h : Q (.bool (!ns.isEmpty)) s) :
    wpAny (model prog w) A (compareOp .NotEq (.ref a) (.ref b)) Q E s := by
  obtain ⟨as, ra⟩ := ints_reads (h := s.heap) hv
  refine ne_dataH (reads_list_at (N.get ha) rfl rfl (by simpa using ra)) (reads_list_at (N.get hb) rfl rfl (by simpa using ReadsAll.nil)) (ints_shaped ns) (by decide +kernel) hu ?_
  have e : PyData.eqv (.list (ns.map PyData.int)) (.list []) = ns.isEmpty := by
    cases ns with
    | nil => rfl
    | cons n ns => simp [PyData.eqv, PyData.eqvAll]
  rw [e]; exact h
theorem set_in {a : Addr} {vs : List Value} {ns : List Int} {k : Nat} {x : Int} {t : Tok} (N : News h₀ L s.heap news) (ha : (a, cellsO vs k) ∈ news) (hv : IntsAre vs ns) (h : Q (.bool (ns.any (· == x))) s) :
    wpAny (model prog w) A (compareOp .In (.int x t) (.ref a)) Q E s := in_list_ints (News.isList N ha) hv h
end
theorem map_over {x : Str} {v : Option Value} {u m₀ : Str → Option Value} : (fun y => if y = x then v else (if y = x then u y else m₀ y)) = fun z => if z = x then (fun _ => v) z else m₀ z := by
  funext z
  by_cases h : z = x <;> simp [h]
theorem map_same {x : Str} {m₀ : Str → Option Value} : (fun z => if z = x then m₀ z else m₀ z) = m₀ := by
  funext z; simp
section
variable {prog : Program} {w : World} {A : Around} {E : Value → Shared → Prop} {s : Shared} {h₀ : Heap} {env : Env} {target : PySem.Expr} {body : List Stmt} {Q : Flow → Shared → Prop}
/-- what a turn over the rows leaves -/
inductive RowNext (m₀ : Str → Option Value) (x : Str) (base : Led) (stay : Prop) : (Str → Option Value) → Led → Prop where
  | mk {u : Str → Option Value} {tl : Led} : stay → (∀ q ∈ base, ∀ p ∈ tl, q.1 < p.1) → RowNext m₀ x base stay (fun z => if z = x then u z else m₀ z) (base ++ tl)
theorem row_turn {h' : Heap} {L I : Addr} {it : Obj} {e : Addr × Obj} {s₁ : Shared} {tk : Nat} {m₁ m₀ u : Str → Option Value} {x : Str} {base tl all l1 : Led} {stay : Prop}
    (F : Fr h₀ L h' m₁) (hm : m₁ = fun z => if z = x then u z else m₀ z) (N : News h₀ L h' all) (i : (I, it) ∈ all) (k : Cut1 I all l1) (en : Ends base l1 tl) (he : e ∈ base) (hst : stay) :
    TurnEnd h₀ L s₁ I it e (RowNext m₀ x base stay) { s₁ with heap := h', toks := tk } := by
  subst hm
  exact .mk F (news_at N i (N.perm fun p hp => k.sub _ (en.sub _ hp))) (off1_of (ends_led en fun p hp => off1_mem k.off p hp)) (List.mem_append.mpr (.inl he)) (.mk hst en.ord)
theorem rows_loop {I : Addr} {e : Addr × Obj} {x : Str} {base : Led} {m₀ : Str → Option Value} {n : Nat} (p : List Int → Prop) {vs : List Value} {es : List (List Int)}
    (turn : ∀ v e' tl (u : Str → Option Value) it h tk, e' ∈ es → DIn w base v n e' → (∀ q ∈ base, ∀ p ∈ tl, q.1 < p.1) → Fr h₀ env.locals h (fun z => if z = x then u z else m₀ z) → News h₀ env.locals h ((I, it) :: (base ++ tl)) → LCg.Off1 I (base ++ tl) →
      wpAny (model prog w) A (assign target env v) (fun _ s₂ => wpAny (model prog w) A (execs body env) (TurnPost h₀ env.locals { s with heap := h, toks := tk } I it e (RowNext m₀ x base (p e')) Q) E s₂) E { s with heap := h, toks := tk })
    (hR : RowsIn w base n vs es)
    (done : ∀ (u : Str → Option Value) tl h tk, (∀ e' ∈ es, p e') → (∀ q ∈ base, ∀ p ∈ tl, q.1 < p.1) → Fr h₀ env.locals h (fun z => if z = x then u z else m₀ z) → News h₀ env.locals h (base ++ tl) → Q .next { s with heap := h, toks := tk }) :
    TurnRest prog w A E h₀ env target body Q s I e vs m₀ base := by
  have all : ∀ {vs : List Value} {es' : List (List Int)}, RowsIn w base n vs es' → ∀ (pre : List (List Int)), pre ++ es' = es → (∀ e' ∈ pre, p e') → ∀ (u : Str → Option Value) tl, (∀ q ∈ base, ∀ p ∈ tl, q.1 < p.1) →
      TurnRest prog w A E h₀ env target body Q s I e vs (fun z => if z = x then u z else m₀ z) (base ++ tl) := by
    intro vs es' hR
    induction hR with
    | nil => intro pre hp hq u tl ho; exact fun h tk F N => done u tl h tk (by simpa [← hp] using hq) ho F N
    | @cons v e' vs es' hd _ ih =>
      intro pre hp hq u tl ho
      refine TurnRest.cons fun it h tk F N off => ?_
      refine turn_mono (fun m' n' z => ?_) (turn v e' tl u it h tk (by simp [← hp]) hd ho F N off)
      cases z with
      | mk hst ho' => exact ih (pre ++ [e']) (by simp [← hp]) (fun z hz => (List.mem_append.mp hz).elim (hq z) fun hz => List.mem_singleton.mp hz ▸ hst) _ _ ho'
  have := all hR [] rfl (fun _ h => nomatch h) m₀ [] (fun _ _ _ h => nomatch h)
  rw [map_same, List.append_nil] at this
  exact this
end
theorem rowsE_len {S : Int → List Int} : ∀ {rs : List Int} {es : List (List Int)} {k : Nat}, (∀ e ∈ es, e.length = k) → ∀ e ∈ rowsE S rs es, e.length = k + rs.length
  | [], _, _, h => h
  | _ :: rs, _, k, h => fun e he => by
    have := rowsE_len (rs := rs) (grow_mem h) e he
    rw [this, List.length_cons]; lia
theorem rows_len {S : Int → List Int} {rs : List Int} {e' : List Int} (h : e' ∈ rowsE S rs [[]]) : e'.length = rs.length := by
  have := rowsE_len (k := 0) (fun e he => by rw [List.mem_singleton.mp he]; rfl) e' h
  lia
theorem sc_at {e e' : List Int} {f : Form} {n k : Nat} (h : sc f (n + k)) (hl : e'.length = k) (hn : e.length = n := by rfl) : sc f (e ++ e').length := by
  rw [List.length_append, hl, hn]; exact h
theorem din_merge {w : World} {led : Led} {d : Addr} {o : Obj} {kvs kvs' : List (Str × Value)} {n : Nat} {e e' : List Int} (hk : KV 0 e kvs) (hk' : KV n e' kvs') (hn : n = e.length) (hl : n + e'.length ≤ 8) (ho : o.IsDictOf (SK w) (merged kvs kvs')) (hm : (d, o) ∈ led) (hy : (d == sysModules) = false) : DIn w led (.ref d) 0 (e ++ e') := by
  subst hn
  have hk2 : KV (0 + e.length) e' kvs' := by rw [Nat.zero_add]; exact hk'
  rw [hk.merged hk2 (by lia)] at ho
  exact .mk hm hy ho (hk.append hk2) (by simp only [List.length_append]; lia)
theorem ite_bool {c : Bool} {a b : Prop} (x : c = true → a) (y : c = false → b) : if c = true then a else b := by
  cases c
  · exact y rfl
  · exact x rfl
theorem con1_hit : ∀ {b h : Bool}, (h == !b) = true → (!b) = h := by decide
theorem con1_end : ∀ {b h : Bool}, (h == !b) = false → b = h := by decide
theorem con2_hit : ∀ {b h g : Bool}, (h == !b) = true → (!b) = (bif b then h && g else h || g) := by decide
theorem con2_nxt : ∀ {b h g : Bool}, (h == !b) = false → (g == !b) = true → (!b) = (bif b then h && g else h || g) := by decide
theorem con2_end : ∀ {b h g : Bool}, (h == !b) = false → (g == !b) = false → b = (bif b then h && g else h || g) := by decide
theorem imp_yes : ∀ {h g : Bool}, h = true → g = (!h || g) := by decide
theorem imp_no : ∀ {h g : Bool}, h = false → true = (!h || g) := by decide
theorem beq_hit : ∀ {b h : Bool}, (h == !b) = true → h = !b := by decide
theorem beq_off : ∀ {b h : Bool}, (h == !b) = false → h = b := by decide
/-- a formula, the sets, the atoms of the names in sight -/
noncomputable abbrev HoldD := Form × (Int → List Int) × List Int
inductive HoldRel (w : World) (news : Led) : List Value → HoldD → Prop where
  | mk {fv sv ev : Value} {F : Form} {S : Int → List Int} {e : List Int} : FIn news fv F → SetsIn news sv S → DIn w news ev 0 e → sc F e.length → HoldRel w news [fv, sv, ev] (F, S, e)
noncomputable abbrev holdSize (d : HoldD) : Nat := d.1.size + 20
noncomputable abbrev holdOut (_ : Led) (r : Value) (d : HoldD) : Prop := r = .bool (hold d.2.1 d.1 d.2.2)
end Mine
end

section
open PySem PySem.W PyProof.Rows PySem.Spec
set_option Elab.async false
set_option maxRecDepth 100000
namespace Mine
noncomputable abbrev rdata (r : Int) : PyData := .tuple [.str (Str.ofString "rel"), .int r]
noncomputable abbrev vdata (k : Nat) : PyData := .tuple [.str (Str.ofString "var"), .str (xname k)]
noncomputable abbrev ddata (k : Nat) (r : Int) : PyData := .tuple [.str (xname k), rdata r]
noncomputable def decsD : Nat → List Int → List PyData
  | _, [] => []
  | k, r :: rs => ddata k r :: decsD (k + 1) rs
/-- a formula as data -/
noncomputable def fdata : Form → PyData
  | .tf b => .tuple [.str (sel b "true" "false")]
  | .some r => .tuple [.str (Str.ofString "some"), rdata r]
  | .inn k r => .tuple [.str (Str.ofString "in"), vdata k, rdata r]
  | .not f => .tuple [.str (Str.ofString "not"), fdata f]
  | .con0 b => .tuple [.str (sel b "and" "or"), .tuple []]
  | .con1 b f => .tuple [.str (sel b "and" "or"), .tuple [fdata f]]
  | .con2 b f g => .tuple [.str (sel b "and" "or"), .tuple [fdata f, fdata g]]
  | .imp f g => .tuple [.str (Str.ofString "implies"), fdata f, fdata g]
  | .iff f g => .tuple [.str (Str.ofString "iff"), fdata f, fdata g]
  | .qu b k rs f => .tuple [.str (sel b "all" "exists"), .tuple (decsD k rs), fdata f]
section
variable {h : Heap} {news : Led} {h₀ : Heap} {L : Addr}
theorem led_tup {a : Addr} {vs : List Value} {n : Nat} {ds : List PyData} {as : List Addr} (N : News h₀ L h news) (m : (a, tupO vs n) ∈ news) (r : ReadsAll h vs ds as) : Reads h (.ref a) (.tuple ds) as :=
  .tuple (N _ m).1 rfl rfl (by simpa using r)
theorem rel_reads {v : Value} {r : Int} (N : News h₀ L h news) (x : RelIn news v r) : ∃ as, Reads h v (rdata r) as := by
  cases x with | mk m => exact ⟨_, led_tup N m (.cons (.str _ _) (.cons (.int _ _) .nil))⟩
theorem var_reads {v : Value} {k : Nat} (N : News h₀ L h news) (x : VarIn news v k) : ∃ as, Reads h v (vdata k) as := by
  cases x with | mk m => exact ⟨_, led_tup N m (.cons (.str _ _) (.cons (.str _ _) .nil))⟩
theorem dec_reads {v : Value} {k : Nat} {r : Int} (N : News h₀ L h news) (x : DecIn news v k r) : ∃ as, Reads h v (ddata k r) as := by
  cases x with | mk m g => let ⟨_, q⟩ := rel_reads N g; exact ⟨_, led_tup N m (.cons (.str _ _) (.cons q .nil))⟩
theorem decs_reads {vs : List Value} {k : Nat} {rs : List Int} (N : News h₀ L h news) (x : DecsIn news vs k rs) : ∃ as, ReadsAll h vs (decsD k rs) as := by
  induction x with
  | nil => exact ⟨_, .nil⟩
  | cons d _ ih => let ⟨_, q⟩ := dec_reads N d; let ⟨_, q'⟩ := ih; exact ⟨_, .cons q q'⟩
theorem form_reads {v : Value} {f : Form} (N : News h₀ L h news) (x : FIn news v f) : ∃ as, Reads h v (fdata f) as := by
  induction x with
  | tf m => exact ⟨_, led_tup N m (.cons (.str _ _) .nil)⟩
  | some m g => let ⟨_, q⟩ := rel_reads N g; exact ⟨_, led_tup N m (.cons (.str _ _) (.cons q .nil))⟩
  | inn m g g' => let ⟨_, q⟩ := var_reads N g; let ⟨_, q'⟩ := rel_reads N g'; exact ⟨_, led_tup N m (.cons (.str _ _) (.cons q (.cons q' .nil)))⟩
  | not m _ i => let ⟨_, q⟩ := i; exact ⟨_, led_tup N m (.cons (.str _ _) (.cons q .nil))⟩
  | con0 m m' => exact ⟨_, led_tup N m (.cons (.str _ _) (.cons (led_tup N m' .nil) .nil))⟩
  | con1 m m' _ i => let ⟨_, q⟩ := i; exact ⟨_, led_tup N m (.cons (.str _ _) (.cons (led_tup N m' (.cons q .nil)) .nil))⟩
  | con2 m m' _ _ i j => let ⟨_, q⟩ := i; let ⟨_, q'⟩ := j; exact ⟨_, led_tup N m (.cons (.str _ _) (.cons (led_tup N m' (.cons q (.cons q' .nil))) .nil))⟩
  | imp m _ _ i j => let ⟨_, q⟩ := i; let ⟨_, q'⟩ := j; exact ⟨_, led_tup N m (.cons (.str _ _) (.cons q (.cons q' .nil)))⟩
  | iff m _ _ i j => let ⟨_, q⟩ := i; let ⟨_, q'⟩ := j; exact ⟨_, led_tup N m (.cons (.str _ _) (.cons q (.cons q' .nil)))⟩
  | qu m m' g _ i => let ⟨_, p⟩ := decs_reads N g; let ⟨_, q⟩ := i; exact ⟨_, led_tup N m (.cons (.str _ _) (.cons (led_tup N m' p) (.cons q .nil)))⟩
end
theorem ok_x : ∀ {k : Nat}, k < 8 → PyData.strOk (xname k) = true := by decide +kernel
theorem ok_w : ∀ {x : String}, x ∈ ["var", "rel", "true", "false", "some", "in", "not", "and", "or", "implies", "iff", "all", "exists"] → PyData.strOk (Str.ofString x) = true := by decide +kernel
theorem ok_s {x y : String} (b : Bool) (hx : PyData.strOk (Str.ofString x) = true) (hy : PyData.strOk (Str.ofString y) = true) : PyData.strOk (sel b x y) = true := by
  cases b
  · exact hy
  · exact hx
theorem lay_t (ds : List PyData) : (PyData.tuple ds).canLay0 = PyData.canLayAll0 ds := by rw [PyData.canLay0]
theorem lay_s (x : Str) : (PyData.str x).canLay0 = PyData.strOk x := by rw [PyData.canLay0]
theorem lay_0 : PyData.canLayAll0 [] = true := by rw [PyData.canLayAll0]
theorem lay_c {d : PyData} {ds : List PyData} (h : d.canLay0 = true) (k : PyData.canLayAll0 ds = true) : PyData.canLayAll0 (d :: ds) = true := by rw [PyData.canLayAll0, h, k]; rfl
theorem lay1 {x : Str} (h : PyData.strOk x = true) : (PyData.tuple [.str x]).canLay0 = true := (lay_t _).trans (lay_c ((lay_s x).trans h) lay_0)
theorem lay2 {x : Str} {d : PyData} (h : PyData.strOk x = true) (k : d.canLay0 = true) : (PyData.tuple [.str x, d]).canLay0 = true := (lay_t _).trans (lay_c ((lay_s x).trans h) (lay_c k lay_0))
theorem lay3 {x : Str} {d e : PyData} (h : PyData.strOk x = true) (k : d.canLay0 = true) (l : e.canLay0 = true) : (PyData.tuple [.str x, d, e]).canLay0 = true := (lay_t _).trans (lay_c ((lay_s x).trans h) (lay_c k (lay_c l lay_0)))
theorem lay_i (r : Int) : (PyData.int r).canLay0 = true := by rw [PyData.canLay0]
theorem lay_r (r : Int) : (rdata r).canLay0 = true := lay2 (ok_w (by decide)) (lay_i r)
theorem lay_d {k : Nat} (r : Int) (h : k < 8) : (ddata k r).canLay0 = true := lay2 (ok_x h) (lay_r r)
theorem lay_ds : ∀ (rs : List Int) (k : Nat), k + rs.length ≤ 8 → PyData.canLayAll0 (decsD k rs) = true
  | [], _, _ => lay_0
  | r :: rs, k, h => lay_c (lay_d r (by rw [List.length_cons] at h; lia)) (lay_ds rs (k + 1) (by rw [List.length_cons] at h; lia))
theorem lay_f : ∀ (f : Form) (n : Nat), sc f n → n ≤ 7 → (fdata f).canLay0 = true
  | .tf b, _, _, _ => lay1 (ok_s b (ok_w (by decide)) (ok_w (by decide)))
  | .some r, _, _, _ => lay2 (ok_w (by decide)) (lay_r r)
  | .inn k r, n, h, hn => lay3 (ok_w (by decide)) (lay2 (ok_w (by decide)) ((lay_s _).trans (ok_x (Nat.lt_of_lt_of_le h (Nat.le_succ_of_le hn))))) (lay_r r)
  | .not f, n, h, hn => lay2 (ok_w (by decide)) (lay_f f n h hn)
  | .con0 b, _, _, _ => lay2 (ok_s b (ok_w (by decide)) (ok_w (by decide))) ((lay_t _).trans lay_0)
  | .con1 b f, n, h, hn => lay2 (ok_s b (ok_w (by decide)) (ok_w (by decide))) ((lay_t _).trans (lay_c (lay_f f n h hn) lay_0))
  | .con2 b f g, n, h, hn => lay2 (ok_s b (ok_w (by decide)) (ok_w (by decide))) ((lay_t _).trans (lay_c (lay_f f n h.1 hn) (lay_c (lay_f g n h.2 hn) lay_0)))
  | .imp f g, n, h, hn | .iff f g, n, h, hn => lay3 (ok_w (by decide)) (lay_f f n h.1 hn) (lay_f g n h.2 hn)
  | .qu b k rs f, n, h, hn => lay3 (ok_s b (ok_w (by decide)) (ok_w (by decide))) ((lay_t _).trans (lay_ds rs k (by have := h.1; have := h.2.2.1; lia))) (lay_f f _ h.2.2.2 h.2.2.1)
theorem dep_t (ds : List PyData) : (PyData.tuple ds).depth = PyData.depthAll ds + 1 := by rw [PyData.depth]
theorem dep_s (x : Str) : (PyData.str x).depth = 0 := by rw [PyData.depth]
theorem dep_i (x : Int) : (PyData.int x).depth = 0 := by rw [PyData.depth]
theorem dep_0 : PyData.depthAll [] = 0 := by rw [PyData.depthAll]
theorem dep_c (d : PyData) (ds : List PyData) : PyData.depthAll (d :: ds) = max d.depth (PyData.depthAll ds) := by rw [PyData.depthAll]
theorem dep1 (x : Str) : (PyData.tuple [.str x]).depth ≤ 1 := by rw [dep_t, dep_c, dep_s, dep_0]; decide
theorem dep2 {x : Str} {d : PyData} {n : Nat} (h : d.depth ≤ n) : (PyData.tuple [.str x, d]).depth ≤ n + 1 := by rw [dep_t, dep_c, dep_c, dep_s, dep_0]; lia
theorem dep3 {x : Str} {d e : PyData} {n : Nat} (h : d.depth ≤ n) (k : e.depth ≤ n) : (PyData.tuple [.str x, d, e]).depth ≤ n + 1 := by rw [dep_t, dep_c, dep_c, dep_c, dep_s, dep_0]; lia
theorem dep_r (r : Int) : (rdata r).depth ≤ 1 := dep2 (Nat.le_of_eq (dep_i r))
theorem dep_d (k : Nat) (r : Int) : (ddata k r).depth ≤ 2 := dep2 (dep_r r)
theorem dep_ds : ∀ (rs : List Int) (k : Nat), PyData.depthAll (decsD k rs) ≤ 2
  | [], _ => by show PyData.depthAll [] ≤ 2; rw [dep_0]; decide
  | r :: rs, k => by show PyData.depthAll (ddata k r :: decsD (k + 1) rs) ≤ 2; rw [dep_c]; exact Nat.max_le.mpr ⟨dep_d k r, dep_ds rs (k + 1)⟩
theorem dep_tt {ds : List PyData} {n : Nat} (h : PyData.depthAll ds ≤ n) : (PyData.tuple ds).depth ≤ n + 1 := by rw [dep_t]; lia
theorem dep_f : ∀ (f : Form), (fdata f).depth ≤ 3 * f.size + 1
  | .tf _ => Nat.le_trans (dep1 _) (by decide : 1 ≤ 4)
  | .some r => Nat.le_trans (dep2 (dep_r r)) (by decide : 2 ≤ 4)
  | .inn k r => Nat.le_trans (dep3 (Nat.le_trans (dep2 (Nat.le_of_eq (dep_s _))) (by decide : 1 ≤ 1)) (dep_r r)) (by decide : 2 ≤ 4)
  | .not f => Nat.le_trans (dep2 (dep_f f)) (by show _ ≤ 3 * (f.size + 1) + 1; lia)
  | .con0 b => Nat.le_trans (dep2 (dep_tt (Nat.le_of_eq dep_0))) (by decide : 2 ≤ 4)
  | .con1 b f => Nat.le_trans (dep2 (dep_tt (by rw [dep_c, dep_0]; exact Nat.max_le.mpr ⟨dep_f f, Nat.zero_le _⟩))) (by show _ ≤ 3 * (f.size + 1) + 1; lia)
  | .con2 b f g => Nat.le_trans (dep2 (dep_tt (n := 3 * max f.size g.size + 1) (by
      have := dep_f f; have := dep_f g
      rw [dep_c, dep_c, dep_0]; lia))) (by show _ ≤ 3 * (max f.size g.size + 1) + 1; lia)
  | .imp f g | .iff f g => Nat.le_trans (dep3 (n := 3 * max f.size g.size + 1) (by have := dep_f f; lia) (by have := dep_f g; lia)) (by show _ ≤ 3 * (max f.size g.size + 1) + 1; lia)
  | .qu b k rs f => Nat.le_trans (dep3 (n := 3 * f.size + 1) (Nat.le_trans (dep_tt (dep_ds rs k)) (by have := size_pos f; lia)) (dep_f f)) (by show _ ≤ 3 * (f.size + 1) + 1; lia)
theorem shape_f {f : Form} (h : sc f 0) (hs : f.size ≤ 20) : SeqAt.shaped (fdata f) = true :=
  Bool.and_eq_true_iff.mpr ⟨lay_f f 0 h (Nat.zero_le _), decide_eq_true (by have := dep_f f; lia)⟩
/-- two readings of one formula are equal -/
theorem form_ne {prog : Program} {w : World} {A : Around} {E : Value → Shared → Prop} {s : Shared} {h₀ : Heap} {L : Addr} {news n1 n2 : Led} {a b : Value} {f : Form} {Q : Value → Shared → Prop}
    (N : News h₀ L s.heap news) (x : FIn n1 a f) (y : FIn n2 b f) (s1 : Sub n1 news) (s2 : Sub n2 news) (hl : sc f 0) (hs : f.size ≤ 20) (hu : A.units + 64 < cLine) (h : Q (.bool false) s) :
    wpAny (model prog w) A (compareOp .NotEq a b) Q E s := by
  obtain ⟨as, ra⟩ := form_reads N (x.mono s1)
  obtain ⟨bs, rb⟩ := form_reads N (y.mono s2)
  refine ne_dataH ra rb (shape_f hl hs) (shape_f hl hs) hu ?_
  rw [SeqAt.eqv_refl _ (lay_f f 0 hl (Nat.zero_le _))]
  exact h
end Mine
end

section
open PySem PySem.W PyProof.Rows PySem.Spec PySem.Calls PyProof.Rows.LCg
set_option Elab.async false
set_option maxRecDepth 100000
namespace Mine
theorem keys_miss : typeLookup (.type "list") "keys" = pure none := by rw [typeLookup_type, builtinLookup_eq_fast]; kernel_rfl
section
variable {prog : Program} {w : World} {A : Around} {E : Value → Shared → Prop} {s : Shared}
theorem no_keys {a : Addr} {o : Obj} {xs : Array Value} {k : Nat} {Q : Option Value → Shared → Prop}
    (hx : s.heap.get? a = some o) (hc : o.cls = .type "list") (hdat : o.data = .seq xs k) (hd : o.dict = none) (hA : A.handled = none)
    (h : ∀ h' tk, (∀ b ob, s.heap.get? b = some ob → h'.get? b = some ob) → Q none { s with heap := h', toks := tk }) :
    wpAny (model prog w) A (getAttr? (.ref a) "keys") Q E s := by
  obtain ⟨c, dct, dat, sl⟩ := o
  simp only at hc hdat hd
  subst hc hdat hd
  obtain ⟨hp, g, d, tk, os⟩ := s
  have hT : ∀ tk', (⟨hp, g, d, tk', os⟩ : Shared).TypeIs (.ref a) "list" := fun _ => ⟨_, hx, rfl⟩
  have f1 := sub_AttributeError
  have f3 := F.slot_list_getattribute.lookup
  have f4 := F.slot_list_getattribute.bind (.ref a)
  have f5 := am_list_getattr_none
  unfold getAttr? getAttrBy? getAttrBy
  repeat (any_goals (first | assumption | exact hT _ | ((with_reducible show wpAny _ _ (call (Value.builtin "list.__getattribute__") _ _) _ _ _); refine call_meets F.slot_list_getattribute (hT _) am_entry_list_getattribute (F.args_list_getattribute_2 _ _) (meets_getattribute_miss_list a xs k sl _ _ keys_miss (by decide +kernel) (by decide +kernel)) ⟨hx, hA, fun h' tk' e hx' => ?_⟩) | wp_step))
  obtain ⟨t', u', he⟩ := hx'.there
  show wpAny _ _ (getattributeRaised _ _ _ _ _ _ _) _ _ _
  unfold getattributeRaised
  repeat (any_goals (first | assumption | wp_step))
  exact h _ _ hx'.keeps
end
theorem entry_update_loop : entryFor table "dict.update.loop" = some Builtin.«dict.update.loop» := entryFor_of_tree (by kernel_rfl)
theorem plain_update_loop : plainId "dict.update.loop" = true := by decide +kernel
noncomputable abbrev TK (prog : Program) (w : World) := tupleKind (intKind prog w)
/-- pairs of a tuple of one int and True -/
inductive PrIn (Kq : Addr → Obj → Prop) (h : Heap) : List Value → List Int → Prop where
  | nil : PrIn Kq h [] []
  | cons {p q : Addr} {o1 o2 : Obj} {n1 n2 : Nat} {x : Int} {t : Tok} {vs : List Value} {xs : List Int} : h.get? p = some o1 → o1.cls = .type "tuple" → o1.data = .seq #[.ref q, .bool true] n1 → h.get? q = some o2 → o2.cls = .type "tuple" → o2.data = .seq #[.int x t] n2 → Kq q o2 →
      PrIn Kq h vs xs → PrIn Kq h (.ref p :: vs) (x :: xs)
theorem PrIn.get {Kq : Addr → Obj → Prop} {h : Heap} {vs : List Value} {xs : List Int} (H : PrIn Kq h vs xs) : ∀ {i : Nat} {v : Value}, vs[i]? = some v → ∃ p q o1 o2 n1 n2 x t, v = .ref p ∧ xs[i]? = some x ∧ h.get? p = some o1 ∧ o1.cls = .type "tuple" ∧ o1.data = .seq #[.ref q, .bool true] n1 ∧ h.get? q = some o2 ∧ o2.cls = .type "tuple" ∧ o2.data = .seq #[.int x t] n2 ∧ Kq q o2 := by
  induction H with
  | nil => intro i v h; exact absurd h (by simp)
  | @cons p q o1 o2 n1 n2 x t vs xs a b c d e f g _ ih =>
    intro i v h
    cases i with
    | zero => simp only [List.getElem?_cons_zero, Option.some.injEq] at h; exact ⟨p, q, o1, o2, n1, n2, x, t, h.symm, by simp, a, b, c, d, e, f, g⟩
    | succ i => simp only [List.getElem?_cons_succ] at h; obtain ⟨p, q, o1, o2, n1, n2, x, t, r⟩ := ih h; exact ⟨p, q, o1, o2, n1, n2, x, t, r.1, by simpa using r.2.1, r.2.2⟩
theorem PrIn.length {Kq : Addr → Obj → Prop} {h : Heap} {vs : List Value} {xs : List Int} (H : PrIn Kq h vs xs) : vs.length = xs.length := by
  induction H with
  | nil => rfl
  | cons _ _ _ _ _ _ _ _ ih => simp [ih]
/-- the keys met -/
noncomputable def KeysMet (ys : List (List Int × Addr × Value)) (xs : List Int) : Prop := ∀ a : Int, (atKey ys [a]).isSome = xs.any (· == a)
theorem atKey_stored {ys : List (List Int × Addr × Value)} {k k' : List Int} {a : Addr} {v : Value} : (atKey (storedH ys k a v) k').isSome = ((atKey ys k').isSome || decide (k = k')) := by
  unfold storedH
  cases hk : atKey ys k with
  | none =>
    show (atKey (ys ++ [(k, a, v)]) k').isSome = _
    unfold atKey
    rw [List.find?_append]
    cases hf : ys.find? fun x => decide (x.1 = k') with
    | some p => simp
    | none => by_cases hkk : k = k' <;> simp [hkk]
  | some p =>
    show (atKey (ys.map (putAt k v)) k').isSome = _
    have e : ∀ l : List (List Int × Addr × Value), (atKey (l.map (putAt k v)) k').isSome = (atKey l k').isSome := by
      intro l
      induction l with
      | nil => rfl
      | cons y l ih =>
        have e1 : (putAt k v y).1 = y.1 := by unfold putAt; split <;> rfl
        unfold atKey at ih ⊢
        simp only [List.map_cons, List.find?_cons, e1]
        cases decide (y.1 = k') with
        | true => rfl
        | false => exact ih
    rw [e]
    by_cases hkk : k = k'
    · subst hkk; simp [hk]
    · simp [hkk]
theorem met_step {ys : List (List Int × Addr × Value)} {xs : List Int} {x : Int} {a : Addr} {v : Value} (h : KeysMet ys xs) : KeysMet (storedH ys [x] a v) (xs ++ [x]) := by
  intro b
  rw [atKey_stored, h b, List.any_append]
  congr 1
  by_cases hb : x = b <;> simp [hb]
section
variable {prog : Program} {w : World} {A : Around} {E : Value → Shared → Prop} {R : Result → Shared → Prop}
theorem item1 (x : Int) (u : Tok) : PySem.ItemsAre (intKind prog w) [x] [.int x u] := by
  first | exact ⟨intKind_is _ _ _ _, trivial⟩ | exact .cons (intKind_is _ _ _ _) .nil | simp [PySem.ItemsAre, intKind_is]
theorem pairs_loop {d I l : Addr} {vs : List Value} {xs : List Int} {h₁ : Heap} {Kq : Addr → Obj → Prop} (hh : A.handled = none) (hu : A.units + 1 < cLine) (hdI : d ≠ I) (hdl : d ≠ l) (hlI : l ≠ I) (hPr : PrIn Kq h₁ vs xs) (hd₁ : h₁.get? d = none) (hI₁ : h₁.get? I = none) (hl₁ : h₁.IsList l vs.toArray) (hlen : vs.length ≤ 100) :
    ∀ (k i : Nat) (n : Int) (t : Tok) (ys : List (List Int × Addr × Value)) (s : Shared), vs.length - i = k → i ≤ vs.length → s.heap.IsListIter I l i → (∀ b o, h₁.get? b = some o → s.heap.get? b = some o) → s.heap.DictOfH (TK prog w) d ys → ys.length ≤ i → KeysMet ys (xs.take i) →
      (∀ y ∈ ys, ∃ x u, y.1 = [x] ∧ ∃ o m, h₁.get? y.2.1 = some o ∧ o.cls = .type "tuple" ∧ o.data = .seq #[.int x u] m ∧ Kq y.2.1 o) →
      (∀ h' tk ys, (∀ b o, h₁.get? b = some o → h'.get? b = some o) → h'.DictOfH (TK prog w) d ys → KeysMet ys xs →
        (∀ y ∈ ys, ∃ x u, y.1 = [x] ∧ ∃ o m, h₁.get? y.2.1 = some o ∧ o.cls = .type "tuple" ∧ o.data = .seq #[.int x u] m ∧ Kq y.2.1 o) → R (.ok (.ret .none)) { s with heap := h', toks := tk }) →
      codeAny (model prog w) A (.builtin "dict.update.loop" ⟨[.ref d, .ref I, .int n t, .none], []⟩) R s := by
  intro k
  induction k with
  | zero =>
    intro i n t ys s hk hi hit hkeep hd hyl hmet hys hR
    have hin : i = vs.length := by lia
    subst hin
    have hl : s.heap.IsList l vs.toArray := hl₁.at fun o e => hkeep _ o e
    refine codeAny_builtin entry_update_loop ?_
    rw [Around.under_plainId plain_update_loop _]
    show wpAny _ A.in1 (pyNext (.ref I) >>= _) _ _ s
    refine wpAny_bind (wpAny_pyNext_list_end hh hit hl (by simp) fun h₂ he₂ => ?_)
    show wpAny _ A.in1 (Builtin.Dict.addKeywords d [] >>= _) _ _ _
    refine wpAny_bind (wpAny_pure ?_)
    refine wpAny_pure ?_
    have e1 := hPr.length
    rw [e1, List.take_length] at hmet
    refine hR h₂ _ ys (fun b o e => he₂ b o (fun q => by rw [q, hI₁] at e; cases e) (hkeep b o e)) ?_ hmet hys
    obtain ⟨o, es, ep, ho, rest⟩ := hd
    exact ⟨o, es, ep, he₂ _ _ hdI ho, rest.1, rest.2.1, rest.2.2.1, fun y hy => by
      obtain ⟨x, u, ex, ob, m, hob, hc, hdt, _⟩ := hys y hy
      have hne : y.2.1 ≠ I := fun q => by rw [q, hI₁] at hob; cases hob
      rw [ex]
      exact ⟨ob, _, m, he₂ _ _ hne (hkeep _ _ hob), hc, hdt, item1 _ _⟩, rest.2.2.2.2⟩
  | succ k ih =>
    intro i n t ys s hk hi hit hkeep hd hyl hmet hys hR
    have hlt : i < vs.length := by lia
    have hl : s.heap.IsList l vs.toArray := hl₁.at fun o e => hkeep _ o e
    obtain ⟨p, q, o1, o2, n1, n2, x, u, hv, hx, hp, hpc, hpd, hq, hqc, hqd, hqk⟩ := hPr.get (List.getElem?_eq_getElem hlt)
    refine codeAny_builtin entry_update_loop ?_
    rw [Around.under_plainId plain_update_loop _]
    show wpAny _ A.in1 (pyNext (.ref I) >>= _) _ _ s
    refine wpAny_bind (wpAny_pyNext_list_item hit hl (x := .ref p) (by simp [hlt, hv]) fun h₂ hit₂ hs₂ => ?_)
    have keep₂ : ∀ b o, h₁.get? b = some o → h₂.get? b = some o := fun b o e => hs₂.extBut b o (fun q => by rw [q, hI₁] at e; cases e) (hkeep b o e)
    have keyIn : ∀ (h' : Heap), (∀ b o, h₁.get? b = some o → h'.get? b = some o) → ∀ y ∈ ys, (TK prog w).is h' y.1 y.2.1 := fun h' hk' y hy => by
      obtain ⟨x, u, ex, ob, m, hob, hc, hdt, _⟩ := hys y hy
      rw [ex]
      exact ⟨ob, _, m, hk' _ _ hob, hc, hdt, item1 _ _⟩
    have hd₂ : h₂.DictOfH (TK prog w) d ys := by
      obtain ⟨o, es, ep, ho, rest⟩ := hd
      exact ⟨o, es, ep, hs₂.extBut _ _ hdI ho, rest.1, rest.2.1, rest.2.2.1, keyIn h₂ keep₂, rest.2.2.2.2⟩
    refine wpAny_bind (wpAny_holding ?_)
    refine wpAny_bind (wpAny_tryCatch ?_)
    unfold Builtin.Dict.pairItems
    have hT : ({ s with heap := h₂ } : Shared).TypeIs (.ref p) "tuple" := ⟨o1, keep₂ _ _ hp, hpc⟩
    refine wpAny_bind (wpAny_typeOf hT ?_)
    rw [if_pos (by decide)]
    refine wpAny_bind (wpAny_seqItems (keep₂ _ _ hp) hpd (wpAny_pure ?_))
    show wpAny _ A.in1 (holding [Value.ref q, Value.bool true] (dictSet d (.ref q) (.bool true))) _ _ _
    refine wpAny_holding ?_
    have h200 : 200 ≤ sizeLine := by decide +kernel
    have hkey : (TK prog w).is h₂ [x] q := ⟨o2, _, n2, keep₂ _ _ hq, hqc, hqd, item1 _ _⟩
    refine wpAny_dictSet_heap (knd := TK prog w) (k := [x]) (hsz := by lia) (show A.in1.units < cLine from hu) hkey hd₂ fun h₃ hd₃ hs₃ => ?_
    refine wpAny_pure ⟨plainId_quiet plain_update_loop _, ih (i + 1) _ _ (storedH ys [x] q (.bool true)) _ (by lia) hlt (hit₂.extBut hs₃.extBut (Ne.symm hdI)) (fun b o e => hs₃.extBut b o (fun z => by rw [z, hd₁] at e; cases e) (keep₂ b o e)) hd₃ ?_ ?_ ?_ ?_⟩
    · unfold storedH
      split
      · rw [List.length_map]; lia
      · rw [List.length_append, List.length_singleton]; lia
    · rw [List.take_add_one, hx]
      exact met_step hmet
    · intro y hy
      rcases PyProof.Rows.mem_storedH hy with ⟨y', hy', e1, e2⟩ | ⟨e1, e2⟩
      · obtain ⟨x', u', a, ob, m, b⟩ := hys y' hy'
        exact ⟨x', u', e1.trans a, ob, m, by rw [e2]; exact b⟩
      · exact ⟨x, u, e1, o2, n2, by rw [e2]; exact ⟨hq, hqc, hqd, hqk⟩⟩
    · exact fun h' tk ys a b c e => hR h' tk ys a b c e
end
/-- pairs of the ledger, their keys of a part of it -/
inductive PrLed (news nk : Led) : List Value → List Int → Prop where
  | nil : PrLed news nk [] []
  | cons {p q : Addr} {n1 n2 : Nat} {x : Int} {t : Tok} {vs : List Value} {xs : List Int} : (p, tupO [.ref q, .bool true] n1) ∈ news → (q, tupO [.int x t] n2) ∈ nk → PrLed news nk vs xs → PrLed news nk (.ref p :: vs) (x :: xs)
theorem PrLed.at {h₀ h : Heap} {L : Addr} {news nk : Led} (N : News h₀ L h news) (hs : Sub nk news) : ∀ {vs : List Value} {xs : List Int}, PrLed news nk vs xs → PrIn (fun q o => (q, o) ∈ nk) h vs xs
  | _, _, .nil => .nil
  | _, _, .cons a b r => .cons (N _ a).1 rfl rfl (N _ (hs _ b)).1 rfl rfl b (r.at N hs)
/-- a dict keyed by tuples of one int -/
noncomputable def TD (w : World) (news : Led) (o : Obj) (xs : List Int) : Prop :=
  ∃ es ep ys, o.ExactDict ∧ o.data = .dict es ep ∧ es.toList = ys.map (entryOfKey (TK PySem.Challenge.rw_rr0087_01.row.prog w)) ∧ (ys.map (·.1)).Nodup ∧ KeysMet ys xs ∧ ∀ y ∈ ys, ∃ x u ob m, y.1 = [x] ∧ (y.2.1, ob) ∈ news ∧ ob.cls = .type "tuple" ∧ ob.data = .seq #[.int x u] m
theorem TD.mono {w : World} {news news' : Led} {o : Obj} {xs : List Int} (h : TD w news o xs) (hs : Sub news news') : TD w news' o xs := by
  obtain ⟨es, ep, ys, a, b, c, d, e, f⟩ := h
  exact ⟨es, ep, ys, a, b, c, d, e, fun y hy => by obtain ⟨x, u, ob, m, p, q, r⟩ := f y hy; exact ⟨x, u, ob, m, p, hs _ q, r⟩⟩
theorem TD.at {w : World} {news : Led} {o : Obj} {xs : List Int} {h₀ h : Heap} {L d : Addr} (H : TD w news o xs) (N : News h₀ L h news) (hd : h.get? d = some o) : ∃ ys, h.DictOfH (TK PySem.Challenge.rw_rr0087_01.row.prog w) d ys ∧ KeysMet ys xs := by
  obtain ⟨es, ep, ys, a, b, c, e, f, g⟩ := H
  exact ⟨ys, ⟨o, es, ep, hd, a, b, c, fun y hy => by obtain ⟨x, u, ob, m, p, q, r, s⟩ := g y hy; rw [p]; exact ⟨ob, _, m, (N _ q).1, r, s, item1 _ _⟩, e⟩, f⟩
section
variable {w : World} {A : Around} {E : Value → Shared → Prop} {s : Shared} {h₀ : Heap} {L : Addr} {m : Str → Option Value} {news : Led} {Q : Value → Shared → Prop} {mean : ExcName → Option Value} {mg mb : Str → Option Value}
theorem dict_pairs {l : Addr} {ps : List Value} {n : Nat} {xs : List Int} (F : Fr h₀ L s.heap m) (N : News h₀ L s.heap news) (T : Top PV LS mean mg mb h₀) (hh : A.handled = none) (hu : A.units + 4 < cLine) (hl : (l, cellsO ps n) ∈ news) {nk : Led} (hP : PrLed news nk ps xs) (hsub : Sub nk news) (hlen : ps.length ≤ 100)
    (h : ∀ d o h' tk, (∀ p ∈ news, p.1 < d) → (d == sysModules) = false → Fr h₀ L h' m → News h₀ L h' ((d, o) :: news) → TD w nk o xs → Q (.ref d) { s with heap := h', toks := tk }) :
    wpAny (model PySem.Challenge.rw_rr0087_01.row.prog w) A (call (.type "dict") [.ref l]) Q E s := by
  refine callType_codes (Q₁ := fun obj s₁ => obj = .ref s.heap.objs.size ∧ s₁ = { s with heap := s.heap.push { cls := .type "dict", data := .dict #[] } }) PySem.F.kt_called_dict (PySem.F.kt_typeCall_dict_1 _) PySem.F.entry_dict_init (kt_code_dict_new _ ⟨rfl, rfl⟩) ?_
  rintro obj s₁ ⟨rfl, rfl⟩
  have hnew : (s.heap.push { cls := .type "dict", data := .dict #[] }).DictOf (intKind PySem.Challenge.rw_rr0087_01.row.prog w) s.heap.objs.size [] := Heap.DictOf.new s.heap
  have F1 : Fr h₀ L (s.heap.push { cls := .type "dict", data := .dict #[] }) m := F.push _
  have N1 : News h₀ L (s.heap.push { cls := .type "dict", data := .dict #[] }) ((s.heap.objs.size, emptyD) :: news) := N.push F _
  have hdn : ∀ p ∈ news, p.1 < s.heap.objs.size := fun p hp => Heap.lt_size (N p hp).1
  refine ⟨hnew.typeIs, PySem.F.args_dict_init_2 _ _, ?_⟩
  unfold Builtin.«dict.__init__»
  refine wpAny_bind ?_
  unfold Builtin.Dict.selfAndRest
  refine wpAny_bind (wpAny_notOrdered_dict hnew.typeIs ?_)
  show wpAny _ _ (pure (s.heap.objs.size, [Value.ref l])) _ _ _
  refine wpAny_pure ?_
  show wpAny _ _ (Builtin.Dict.updateFrom "dict.__init__" s.heap.objs.size (.ref l) [] .none) _ _ _
  unfold Builtin.Dict.updateFrom
  have hlT : ({ s with heap := s.heap.push { cls := .type "dict", data := .dict #[] } } : Shared).TypeIs (.ref l) "list" := ⟨_, (N1 _ (.tail _ hl)).1, rfl⟩
  refine wpAny_bind (wpAny_typeOf hlT ?_)
  rw [if_pos (by decide)]
  refine wpAny_bind (no_keys (N1 _ (.tail _ hl)).1 rfl rfl rfl hh fun h2 tk2 hk2 => ?_)
  rw [if_pos (by rfl)]
  refine wpAny_bind (wpAny_rule (wpAny_bind ?_))
  have hl2 : h2.IsList l ps.toArray := ⟨_, hk2 _ _ (N1 _ (.tail _ hl)).1, rfl, _, rfl⟩
  refine wpAny_pyIter_list hl2 ?_
  have hP2 : PrIn (fun q o => (q, o) ∈ nk) s.heap ps xs := hP.at N hsub
  have F2 : Fr h₀ L h2 m := F1.keeps hk2
  have N2 : News h₀ L h2 ((s.heap.objs.size, emptyD) :: news) := N1.grown hk2
  have up : ∀ b o, h2.get? b = some o → (h2.push { cls := .type "list_iterator", data := .fields #[.ref l, .int 0 0] }).get? b = some o := fun b o e => Heap.get?_push_of_some _ e
  have hkeep : ∀ b o, s.heap.get? b = some o → h2.get? b = some o := fun b o e => hk2 b o (Heap.get?_push_of_some _ e)
  have hd0 : s.heap.get? s.heap.objs.size = none := Heap.get?_none_of_le (Nat.le_refl _)
  have hsz : s.heap.objs.size < h2.objs.size := Heap.lt_size (N2 _ (.head _)).1
  have hI0 : s.heap.get? h2.objs.size = none := Heap.get?_none_of_le (Nat.le_of_lt hsz)
  refine wpAny_pure ⟨plainId_quiet plain_update_loop _, ?_⟩
  refine pairs_loop (A := A.in1) (Kq := fun q o => (q, o) ∈ nk) (h₁ := s.heap) hh (by show A.units + 1 + 1 < cLine; lia) (Nat.ne_of_lt hsz) (Ne.symm (Nat.ne_of_lt (hdn _ hl))) (Nat.ne_of_lt (Nat.lt_trans (hdn _ hl) hsz)) hP2 hd0 hI0 ⟨_, (N _ hl).1, rfl, _, rfl⟩ hlen _ 0 _ _ [] ({ s with heap := h2.push { cls := .type "list_iterator", data := .fields #[.ref l, .int 0 0] }, toks := tk2 }) rfl (Nat.zero_le _)
    ⟨_, Heap.get?_push_size _ rfl, rfl, rfl⟩ (fun b o e => up _ _ (hkeep b o e)) ⟨emptyD, #[], 0, up _ _ (N2 _ (.head _)).1, ⟨rfl, rfl, rfl⟩, rfl, rfl, fun _ hx => by simp at hx, List.nodup_nil⟩ (Nat.le_refl _) (fun a => by simp [atKey]) (fun _ hy => by simp at hy) ?_
  intro h3 tk3 ys hk3 hd3 hmet hys
  obtain ⟨o3, es, ep, ho3, a, b, c, _, e⟩ := hd3
  have F3 : Fr h₀ L h3 m := ⟨F.ns.at' fun o e => hk3 _ o e, fun b o e => hk3 b o (F.keep b o e), F.above⟩
  have hdL : s.heap.objs.size ≠ L := Ne.symm (Nat.ne_of_lt F.ns.lt)
  have hd₀ : h₀.get? s.heap.objs.size = none := next_is_new F
  have hsys : (s.heap.objs.size == sysModules) = false := F.notModules (modules_low (topRead_of T).nolimit)
  refine ⟨rfl, h s.heap.objs.size o3 h3 tk3 hdn hsys F3 (fun p hp => ?_) ⟨es, ep, ys, a, b, c, e, hmet, fun y hy => ?_⟩⟩
  · rcases List.mem_cons.mp hp with rfl | hp
    · exact ⟨ho3, hdL, hd₀⟩
    · exact ⟨hk3 _ _ (N _ hp).1, (N _ hp).2⟩
  · obtain ⟨x, u, p, ob, m, _, r, t, k⟩ := hys y hy
    exact ⟨x, u, ob, m, p, k, r, t⟩
theorem notin_pairs {d a : Addr} {o : Obj} {xs : List Int} {x : Int} {t : Tok} {n : Nat} {nr : Led} (N : News h₀ L s.heap news) (hd : (d, o) ∈ news) (hy : (d == sysModules) = false) (H : TD w nr o xs) (hs : Sub nr news) (ha : (a, tupO [.int x t] n) ∈ news) (hu : A.units + 2 < cLine)
    (h : ∀ tk, Q (.bool (!(xs.any (· == x)))) { s with toks := tk }) : wpAny (model PySem.Challenge.rw_rr0087_01.row.prog w) A (compareOp .NotIn (.ref a) (.ref d)) Q E s := by
  obtain ⟨ys, hD, hm⟩ := (H.mono hs).at N (N _ hd).1
  refine wpAny_notIn_heap (knd := TK PySem.Challenge.rw_rr0087_01.row.prog w) (k := [x]) (show A.in1.units < cLine by show A.units + 1 < cLine; lia) ⟨_, _, _, (N _ ha).1, rfl, rfl, item1 _ _⟩ hy hD ?_
  rw [hm x]
  exact h _
end
end Mine
end

section
open PySem PySem.W PyProof.Rows PySem.Spec PySem.Calls
set_option Elab.async false
set_option maxRecDepth 100000
namespace Mine
/-- tuples of one int -/
inductive AtomsIn (news : Led) : List Value → List Int → Prop where
  | nil : AtomsIn news [] []
  | cons {q : Addr} {n : Nat} {x : Int} {t : Tok} {vs : List Value} {xs : List Int} : (q, tupO [.int x t] n) ∈ news → AtomsIn news vs xs → AtomsIn news (.ref q :: vs) (x :: xs)
theorem AtomsIn.mono {news news' : Led} {vs : List Value} {xs : List Int} (h : AtomsIn news vs xs) (hs : Sub news news') : AtomsIn news' vs xs := by
  induction h with
  | nil => exact .nil
  | cons a _ ih => exact .cons (hs _ a) ih
inductive WRel (news : Led) : List Value → Int × List Int → Prop where
  | mk {s q t : Addr} {n n0 nt : Nat} {a : Int} {t0 : Tok} {vs : List Value} {xs : List Int} : (s, tupO [.ref q] n) ∈ news → (q, tupO [.int a t0] n0) ∈ news → (t, tupO vs nt) ∈ news → AtomsIn news vs xs → xs.length ≤ 2 → WRel news [.ref s, .ref t] (a, xs)
noncomputable abbrev withinSize (_ : Int × List Int) : Nat := 20
noncomputable abbrev withinOut (_ : Led) (r : Value) (d : Int × List Int) : Prop := ∃ b, r = .bool b ∧ b = d.2.any (· == d.1)
section
variable {prog : Program} {w : World} {A : Around} {E : Value → Shared → Prop} {s : Shared} {h₀ : Heap} {L : Addr} {news : Led} {Q : Value → Shared → Prop}
theorem tup_nil {a b : Addr} {k kb : Nat} (N : News h₀ L s.heap news) (ha : (a, tupO [] k) ∈ news) (hb : (b, tupO [] kb) ∈ news) (hu : A.units + 64 < cLine) (h : Q (.bool true) s) :
    wpAny (model prog w) A (compareOp .Eq (.ref a) (.ref b)) Q E s := by
  refine eq_dataH (led_tup N ha .nil) (led_tup N hb .nil) (by decide +kernel) (by decide +kernel) hu ?_
  exact h
theorem tup_one {a b q : Addr} {k kb n : Nat} {x : Int} {t : Tok} (N : News h₀ L s.heap news) (ha : (a, tupO [.ref q] k) ∈ news) (hq : (q, tupO [.int x t] n) ∈ news) (hb : (b, tupO [] kb) ∈ news) (hu : A.units + 64 < cLine) (h : Q (.bool false) s) :
    wpAny (model prog w) A (compareOp .Eq (.ref a) (.ref b)) Q E s := by
  refine eq_dataH (led_tup N ha (.cons (led_tup N hq (.cons (.int _ _) .nil)) .nil)) (led_tup N hb .nil) ?_ (by decide +kernel) hu ?_
  · refine Bool.and_eq_true_iff.mpr ⟨by simp only [PyData.canLay0, PyData.canLayAll0]; rfl, decide_eq_true (by simp only [PyData.depth, PyData.depthAll]; decide)⟩
  · have e : PyData.eqv (.tuple [.tuple [.int x]]) (.tuple []) = false := by simp [PyData.eqv, PyData.eqvAll]
    rw [e]; exact h
end
end Mine
end

section
open PySem PySem.W PyProof.Rows PySem.Spec PySem.Calls
set_option Elab.async false
set_option maxRecDepth 100000
namespace Mine
/-- an Evaluator's own dict -/
noncomputable abbrev jd (w : World) (k1 k2 k3 t : Tok) (i : Addr) (wy : Int) (tw : Tok) : Obj :=
  dictOf [⟨PyData.keyHash w.params (Str.ofString "many"), .str (Str.ofString "many") k1, .int 2 t⟩, ⟨PyData.keyHash w.params (Str.ofString "instance"), .str (Str.ofString "instance") k2, .ref i⟩, ⟨PyData.keyHash w.params (Str.ofString "ways"), .str (Str.ofString "ways") k3, .int wy tw⟩] 3
/-- items xn: ((a,),) .. of a dict -/
inductive EKV (news : Led) : Nat → List Int → List (Str × Value) → Prop
  | nil {n} : EKV news n [] []
  | cons {n a t e kvs p q n1 n2} : (p, tupO [.ref q] n1) ∈ news → (q, tupO [.int a t] n2) ∈ news → EKV news (n + 1) e kvs → EKV news n (a :: e) ((xname n, .ref p) :: kvs)
theorem EKV.mono {news news' : Led} {n : Nat} {e : List Int} {kvs : List (Str × Value)} (h : EKV news n e kvs) (hs : Sub news news') : EKV news' n e kvs := by
  induction h with
  | nil => exact .nil
  | cons a b _ ih => exact .cons (hs _ a) (hs _ b) ih
theorem EKV.length {news : Led} {n : Nat} {e : List Int} {kvs : List (Str × Value)} (h : EKV news n e kvs) : kvs.length = e.length := by
  induction h with
  | nil => rfl
  | cons _ _ _ ih => simp [ih]
theorem EKV.snoc {news : Led} {n : Nat} {e : List Int} {a : Int} {t : Tok} {p q : Addr} {n1 n2 : Nat} {kvs : List (Str × Value)} (h : EKV news n e kvs) (hp : (p, tupO [.ref q] n1) ∈ news) (hq : (q, tupO [.int a t] n2) ∈ news) : EKV news n (e ++ [a]) (kvs ++ [(xname (n + e.length), .ref p)]) := by
  induction h with
  | nil => exact .cons hp hq .nil
  | @cons n b u e kvs p' q' m1 m2 x y _ ih =>
    refine .cons x y ?_
    have e1 : n + (b :: e).length = n + 1 + e.length := by simp only [List.length_cons]; lia
    rw [e1]; exact ih
theorem EKV.mem {news : Led} {n : Nat} {e : List Int} {kvs : List (Str × Value)} (h : EKV news n e kvs) {x : Str} (hx : x ∈ kvs.map (·.1)) : ∃ i, n ≤ i ∧ i < n + e.length ∧ x = xname i := by
  induction h with
  | nil => exact absurd hx (by simp)
  | @cons n a t e kvs p q n1 n2 _ _ _ ih =>
    rcases List.mem_cons.mp hx with rfl | hx
    · exact ⟨n, Nat.le_refl _, by simp, rfl⟩
    · obtain ⟨i, h1, h2, h3⟩ := ih hx
      exact ⟨i, by lia, by simp only [List.length_cons]; lia, h3⟩
theorem EKV.value {news : Led} {n : Nat} {e : List Int} {kvs : List (Str × Value)} (h : EKV news n e kvs) (hn : n + e.length ≤ 9) {i : Nat} (hi : i < e.length) : ∃ p q n1 n2 t, valueAt kvs (xname (n + i)) = some (.ref p) ∧ (p, tupO [.ref q] n1) ∈ news ∧ (q, tupO [.int (e.getD i 7) t] n2) ∈ news := by
  induction h generalizing i with
  | nil => exact absurd hi (by simp)
  | @cons n a t e kvs p q n1 n2 hp hq r ih =>
    simp only [List.length_cons] at hn hi
    cases i with
    | zero => exact ⟨p, q, n1, n2, t, by simp [valueAt], hp, by simpa using hq⟩
    | succ i =>
      obtain ⟨p', q', m1, m2, u, hu, x, y⟩ := ih (by lia) (i := i) (by lia)
      refine ⟨p', q', m1, m2, u, ?_, x, by simpa using y⟩
      have hne : ¬ xname n = xname (n + (i + 1)) := fun q => by have := x_inj (by lia) (by lia) q; lia
      have e1 : n + (i + 1) = n + 1 + i := by lia
      rw [e1] at hne ⊢
      simp only [valueAt, List.find?_cons, hne, decide_false] at hu ⊢
      exact hu
theorem EKV.stored {news : Led} {n : Nat} {e : List Int} {v : Value} {kvs : List (Str × Value)} (h : EKV news n e kvs) (hn : n + e.length < 9) : stored kvs (xname (n + e.length)) v = kvs ++ [(xname (n + e.length), v)] := by
  unfold PySem.stored
  rw [if_neg]
  rw [List.any_eq_true]
  rintro ⟨kv, hk, he⟩
  obtain ⟨i, h1, h2, h3⟩ := h.mem (List.mem_map.mpr ⟨kv, hk, rfl⟩)
  have e1 : kv.1 = xname (n + e.length) := of_decide_eq_true he
  have := x_inj (by lia) (by lia) (h3.symm.trans e1)
  lia
/-- the Evaluator's environment -/
inductive EIn (w : World) (news : Led) : Value → List Int → Prop where
  | mk {a : Addr} {o : Obj} {kvs : List (Str × Value)} {e : List Int} : (a, o) ∈ news → (a == sysModules) = false → o.IsDictOf (SK w) kvs → EKV news 0 e kvs → e.length ≤ 8 → EIn w news (.ref a) e
theorem EIn.mono {w : World} {news news' : Led} {v : Value} {e : List Int} (h : EIn w news v e) (hs : Sub news news') : EIn w news' v e := by
  cases h with | mk a b c d f => exact .mk (hs _ a) b c (d.mono hs) f
/-- the Evaluator's instance: a list of two tuples of (atom,) -/
inductive InstIn (news : Led) : Addr → (Int → List Int) → Prop where
  | mk {i s0 s1 : Addr} {n n0 n1 : Nat} {v0 v1 : List Value} {S : Int → List Int} : (i, cellsO [.ref s0, .ref s1] n) ∈ news → (s0, tupO v0 n0) ∈ news → (s1, tupO v1 n1) ∈ news → AtomsIn news v0 (S 0) → AtomsIn news v1 (S 1) → (S 0).length ≤ 2 → (S 1).length ≤ 2 → InstIn news i S
theorem InstIn.mono {news news' : Led} {i : Addr} {S : Int → List Int} (h : InstIn news i S) (hs : Sub news news') : InstIn news' i S := by
  cases h with | mk a b c d e f g => exact .mk (hs _ a) (hs _ b) (hs _ c) (d.mono hs) (e.mono hs) f g
section
variable {w : World} {A : Around} {E : Value → Shared → Prop} {s : Shared} {h₀ : Heap} {L : Addr} {news : Led} {Q : Value → Shared → Prop}
theorem inst_at {nr : Led} {i : Addr} {S : Int → List Int} {r : Int} {u : Tok} {value slice : PySem.Expr} (N : News h₀ L s.heap news) (hS : InstIn nr i S) (hs : Sub nr news) (hr : isRel r)
    (h : ∀ b n vs, (b, tupO vs n) ∈ nr → AtomsIn nr vs (S r) → (S r).length ≤ 2 → Q (.ref b) s)
    (he : ∀ a, subscripted slice false (.ref a) (.int r u) = operate [.ref a, .int r u] (getItem (.ref a) (.int r u)) := by intro _; with_unfolding_all rfl) :
    wpAny (model PySem.Challenge.rw_rr0087_01.row.prog w) A (subscriptTail value slice (.ref i) (.int r u)) Q E s := by
  cases hS with
  | @mk s0 s1 n n0 n1 v0 v1 S ma m0 m1 i0 i1 l0 l1 =>
    have hl : s.heap.IsList i [Value.ref s0, .ref s1].toArray := News.isList N (hs _ ma)
    obtain rfl | rfl : r = 0 ∨ r = 1 := by have := hr.1; have := hr.2; lia
    · exact tail_any hl.typeIs slot_list_getitem.lookup (wpAny_getItem_list hl (by decide) (by decide) (by rfl) (h _ _ _ m0 i0 l0)) (he _)
    · exact tail_any hl.typeIs slot_list_getitem.lookup (wpAny_getItem_list hl (by decide) (by decide) (by rfl) (h _ _ _ m1 i1 l1)) (he _)
theorem envE_at {nr : Led} {v : Value} {e : List Int} {k : Nat} {t : Tok} {value slice : PySem.Expr} (N : News h₀ L s.heap news) (hD : EIn w nr v e) (hs : Sub nr news) (hk : k < e.length)
    (h : ∀ p q n1 n2 u, (p, tupO [.ref q] n1) ∈ nr → (q, tupO [.int (e.getD k 7) u] n2) ∈ nr → Q (.ref p) { s with toks := s.toks + 1 })
    (he : ∀ a x t, subscripted slice false (.ref a) (.str x t) = operate [.ref a, .str x t] (getItem (.ref a) (.str x t)) := by intro _ _ _; with_unfolding_all rfl) :
    wpAny (model PySem.Challenge.rw_rr0087_01.row.prog w) A (subscriptTail value slice v (.str (xname k) t)) Q E s := by
  cases hD with
  | @mk a o kvs e hm hy ho hkv hn =>
    obtain ⟨p, q, n1, n2, u, hu, x, y⟩ := hkv.value (by lia) hk
    rw [Nat.zero_add] at hu
    have hd := dict_of (N _ (hs _ hm)).1 ho
    exact tail_any hd.typeIs slot_dict_getitem.lookup (wpAny_getItem_of (strKind_is _ _ _ _) hd.mapOf hu (h p q n1 n2 u x y)) (he a _ t)
end
theorem AtomsIn.length {news : Led} {vs : List Value} {xs : List Int} (h : AtomsIn news vs xs) : vs.length = xs.length := by
  induction h with
  | nil => rfl
  | cons _ _ ih => simp [ih]
theorem some_len (xs : List Int) : decide (0 < (xs.length : Int)) = !xs.isEmpty := by
  cases xs with
  | nil => rfl
  | cons x xs => simp only [List.length_cons, List.isEmpty_cons, Bool.not_false, decide_eq_true_eq]; lia
theorem len_atoms {prog : Program} {w : World} {A : Around} {E : Value → Shared → Prop} {s : Shared} {h₀ : Heap} {L : Addr} {news nr : Led} {Q : Value → Shared → Prop} {b : Addr} {n : Nat} {vs : List Value} {xs : List Int} (N : News h₀ L s.heap news) (hm : (b, tupO vs n) ∈ news) (hA : AtomsIn nr vs xs) (h2 : xs.length ≤ 2)
    (h : ∀ t tk, Q (.int (xs.length : Int) t) { s with toks := tk }) : wpAny (model prog w) A (call (.builtin "len") [.ref b]) Q E s := by
  have e : vs.toArray.size = xs.length := by rw [List.size_toArray, hA.length]
  refine len_tuple (News.isTup N hm) (by rw [e]; lia) ?_
  rw [e]; exact h _ _
/-- a method of the Evaluator at x, its own dict at dx -/
noncomputable def Ev {D : Type} (w : World) (mean : ExcName → Option Value) (mg mb : Str → Option Value) (f : Addr) (Rel : Led → List Value → D → Prop) (size : D → Nat) (cost : D → Int) (Out : Led → Value → D → Prop) (S : Int → List Int) (d : D) : Prop :=
  ∀ (dp un : Nat) (gd : Option (List Code)) (cn : Str) (cs : Scope) (a : Addr) (ccd : Value) (cl : List (Str × Addr)) (outer : List Env) (A₀ : Around) (base h₀ : Heap) (L : Addr) (m : Str → Option Value) (news nr : Led) (s : Shared) (vs : List Value)
    (Q E : Value → Shared → Prop) (x dx i : Addr) (k1 k2 k3 t tw : Tok) (wy : Int),
    Below A₀ base outer h₀ → Fr h₀ L s.heap m → (heap w.params).In h₀ → News h₀ L s.heap ((dx, jd w k1 k2 k3 t i wy tw) :: news) → LCg.Off1 dx news → Top PV LS mean mg mb h₀ → cs.kind = .function → (x, instObj 210 dx) ∈ news →
    Sub nr news → InstIn nr i S → 0 ≤ wy → wy + cost d ≤ 1000 → Rel nr vs d → dp + size d < recursionLimit → un + 8 * size d < cLine →
    (∀ r tl h' tk' wy' tw', Fr h₀ L h' m → News h₀ L h' ((dx, jd w k1 k2 k3 t i wy' tw') :: (news ++ tl)) → (∀ q ∈ news, ∀ p ∈ tl, q.1 < p.1) → (∀ p ∈ tl, dx < p.1) → 0 ≤ wy' → wy' ≤ wy + cost d → Out (nr ++ tl) r d → Q r { s with heap := h', toks := tk' }) →
    wpAny (model PySem.Challenge.rw_rr0087_01.row.prog w) (ktrTop dp un gd cn cs L a ccd cl outer) (call (.ref f) (.ref x :: vs)) Q E s
section
variable {D : Type} {w : World} {mean : ExcName → Option Value} {mg mb : Str → Option Value} {f : Addr} {Rel : Led → List Value → D → Prop} {size : D → Nat} {cost : D → Int} {Out : Led → Value → D → Prop} {S : Int → List Int}
theorem ev_of (step : ∀ d, (∀ d', size d' < size d → Ev w mean mg mb f Rel size cost Out S d') → Ev w mean mg mb f Rel size cost Out S d) : ∀ d, Ev w mean mg mb f Rel size cost Out S d := by
  have all : ∀ n, ∀ d, size d < n → Ev w mean mg mb f Rel size cost Out S d := by
    intro n
    induction n with
    | zero => intro d h; exact absurd h (Nat.not_lt_zero _)
    | succ n ih => exact fun d h => step d fun d' h' => ih d' (Nat.lt_of_lt_of_le h' (Nat.le_of_lt_succ h))
  exact fun d => all _ d (Nat.lt_succ_self _)
theorem use_E {d : D} {dp un : Nat} {gd : Option (List Code)} {cn : Str} {cs : Scope} {a : Addr} {ccd : Value} {cl : List (Str × Addr)} {outer : List Env} {A₀ : Around} {base h₀ : Heap} {L : Addr} {m : Str → Option Value} {l news nr : Led} {s : Shared} {vs : List Value}
    {Q E : Value → Shared → Prop} {x dx i : Addr} {k1 k2 k3 t tw : Tok} {wy : Int}
    (B : Below A₀ base outer h₀) (F : Fr h₀ L s.heap m) (X : (heap w.params).In h₀) (N : News h₀ L s.heap l) (hm : (dx, jd w k1 k2 k3 t i wy tw) ∈ l) (cut : Cut1 dx l news) (T : Top PV LS mean mg mb h₀) (hk : cs.kind = .function)
    (hx : (x, instObj 210 dx) ∈ news) (R : Rel nr vs d) (C : Ev w mean mg mb f Rel size cost Out S d) (hI : InstIn nr i S) (hs : Sub nr news) (w0 : 0 ≤ wy) (w1 : wy + cost d ≤ 1000) (hd : dp + size d < recursionLimit) (hu : un + 8 * size d < cLine)
    (ret : ∀ r tl h' tk' wy' tw', Fr h₀ L h' m → News h₀ L h' ((dx, jd w k1 k2 k3 t i wy' tw') :: (news ++ tl)) → (∀ q ∈ news, ∀ p ∈ tl, q.1 < p.1) → (∀ p ∈ tl, dx < p.1) → 0 ≤ wy' → wy' ≤ wy + cost d → Out (nr ++ tl) r d → Q r { s with heap := h', toks := tk' }) :
    wpAny (model PySem.Challenge.rw_rr0087_01.row.prog w) (ktrTop dp un gd cn cs L a ccd cl outer) (call (.ref f) (.ref x :: vs)) Q E s :=
  C _ _ _ _ _ _ _ _ _ _ _ _ _ _ _ _ _ _ _ _ _ _ _ _ _ _ _ _ _ B F X (fun p hp => by
    rcases List.mem_cons.mp hp with rfl | hp
    · exact N _ hm
    · exact N _ (cut.sub _ hp)) cut.off T hk hx hs hI w0 w1 R hd hu ret
theorem ret_E {d : D} {h₀ : Heap} {L : Addr} {m : Str → Option Value} {news nr l tl : Led} {s : Shared} {Q : Value → Shared → Prop} {r : Value} {h' : Heap} {tk' : Nat} {dx i : Addr} {k1 k2 k3 t tw' : Tok} {wy wy' : Int}
    (ret : ∀ r tl h' tk' wy' tw', Fr h₀ L h' m → News h₀ L h' ((dx, jd w k1 k2 k3 t i wy' tw') :: (news ++ tl)) → (∀ q ∈ news, ∀ p ∈ tl, q.1 < p.1) → (∀ p ∈ tl, dx < p.1) → 0 ≤ wy' → wy' ≤ wy + cost d → Out (nr ++ tl) r d → Q r { s with heap := h', toks := tk' })
    (F : Fr h₀ L h' m) (N : News h₀ L h' l) (hm : (dx, jd w k1 k2 k3 t i wy' tw') ∈ l) (e : Ends news l tl) (hdx : ∀ p ∈ tl, dx < p.1) (w0 : 0 ≤ wy') (w1 : wy' ≤ wy + cost d) (out : Out (nr ++ tl) r d) : Q r { s with heap := h', toks := tk' } :=
  ret _ _ _ _ _ _ F (fun p hp => by
    rcases List.mem_cons.mp hp with rfl | hp
    · exact N _ hm
    · exact N _ (e.sub _ hp)) e.ord hdx w0 w1 out
theorem leave_E {d : D} {h₀ g : Heap} {L L' : Addr} {m m' : Str → Option Value} {news nr l tl : Led} {s : Shared} {R : Result → Shared → Prop} {r : Value} {h' : Heap} {tk' : Nat} {dx i : Addr} {k1 k2 k3 t tw' : Tok} {wy wy' : Int}
    (ret : ∀ r tl h' tk' wy' tw', Fr h₀ L h' m → News h₀ L h' ((dx, jd w k1 k2 k3 t i wy' tw') :: (news ++ tl)) → (∀ q ∈ news, ∀ p ∈ tl, q.1 < p.1) → (∀ p ∈ tl, dx < p.1) → 0 ≤ wy' → wy' ≤ wy + cost d → Out (nr ++ tl) r d → R (.ok (.ret r)) { s with heap := h', toks := tk' })
    (F : Fr g L' h' m') (N : News g L' h' l) (hm : (dx, jd w k1 k2 k3 t i wy' tw') ∈ l) (e : Ends news l tl) (hdx : ∀ p ∈ tl, dx < p.1) (w0 : 0 ≤ wy') (w1 : wy' ≤ wy + cost d) (out : Out (nr ++ tl) r d) : LeaveK h₀ L m g R r { s with heap := h', toks := tk' } :=
  leaveK_ F N fun F N => ret_E (Q := fun r s' => R (.ok (.ret r)) s') ret F N hm e hdx w0 w1 out
end
end Mine
end

section
open PySem PySem.W PyProof.Rows PySem.Spec PySem.Calls
set_option Elab.async false
set_option maxRecDepth 100000
namespace Mine
/-- (atoms, env): at most c atoms -/
inductive PairIn (w : World) (c : Nat) (news : Led) : Value → List Int → Prop where
  | mk {q at' en : Addr} {nq na : Nat} {its : List Value} {e : List Int} : (q, tupO [.ref at', .ref en] nq) ∈ news → (at', tupO its na) ∈ news → its.length ≤ c → EIn w news (.ref en) e → PairIn w c news (.ref q) e
theorem PairIn.mono {w : World} {c : Nat} {news news' : Led} {v : Value} {e : List Int} (h : PairIn w c news v e) (hs : Sub news news') : PairIn w c news' v e := by
  cases h with | mk a b d f => exact .mk (hs _ a) (hs _ b) d (f.mono hs)
inductive PairsIn (w : World) (c : Nat) (news : Led) : List Value → List (List Int) → Prop where
  | nil : PairsIn w c news [] []
  | cons {v : Value} {e : List Int} {vs : List Value} {es : List (List Int)} : PairIn w c news v e → PairsIn w c news vs es → PairsIn w c news (v :: vs) (e :: es)
theorem PairsIn.mono {w : World} {c : Nat} {news news' : Led} {vs : List Value} {es : List (List Int)} (h : PairsIn w c news vs es) (hs : Sub news news') : PairsIn w c news' vs es := by
  induction h with
  | nil => exact .nil
  | cons a _ ih => exact .cons (a.mono hs) ih
theorem PairsIn.length {w : World} {c : Nat} {news : Led} {vs : List Value} {es : List (List Int)} (h : PairsIn w c news vs es) : vs.length = es.length := by
  induction h with
  | nil => rfl
  | cons _ _ ih => simp [ih]
theorem PairsIn.snoc {w : World} {c : Nat} {news : Led} {vs : List Value} {es : List (List Int)} {v : Value} {e : List Int} (h : PairsIn w c news vs es) (d : PairIn w c news v e) : PairsIn w c news (vs ++ [v]) (es ++ [e]) := by
  induction h with
  | nil => exact .cons d .nil
  | cons a _ ih => exact .cons a ih
theorem PairsIn.get {w : World} {c : Nat} {news : Led} {vs : List Value} {es : List (List Int)} {i : Nat} {v : Value} (h : PairsIn w c news vs es) (hv : vs[i]? = some v) : ∃ e, es[i]? = some e ∧ PairIn w c news v e := by
  induction h generalizing i with
  | nil => exact absurd hv (by simp)
  | cons a _ ih =>
    cases i with
    | zero => simp only [List.getElem?_cons_zero, Option.some.injEq] at hv ⊢; exact ⟨_, rfl, hv ▸ a⟩
    | succ i => simp only [List.getElem?_cons_succ] at hv ⊢; exact ih hv
theorem grow_snoc {es : List (List Int)} {e : List Int} {xs : List Int} : grow (es ++ [e]) xs = grow es xs ++ xs.map fun a => e ++ [a] := by
  unfold grow; simp
theorem grow_at {es : List (List Int)} {xs : List Int} {k : Nat} (h : ∀ e ∈ es, e.length = k) : ∀ e ∈ grow es xs, e.length = k + 1 := grow_mem h
noncomputable abbrev Map := Str → Option Value
noncomputable def ovA (a b : Str) (u m₀ : Map) : Map := fun z => if z = a then u z else if z = b then u z else m₀ z
noncomputable def ovB (n1 n2 n3 n4 n5 : Str) (u m₀ : Map) : Map := fun z => if z = n1 then u z else if z = n2 then u z else if z = n3 then u z else if z = n4 then u z else if z = n5 then u z else m₀ z
noncomputable def ov9 (nf n1 n2 n3 n4 n5 n6 n7 n8 : Str) (f : Addr) (u m₀ : Map) : Map := fun z => if z = nf then some (.ref f) else if z = n1 then u z else if z = n2 then u z else if z = n3 then u z else if z = n4 then u z else if z = n5 then u z else if z = n6 then u z else if z = n7 then u z else if z = n8 then u z else m₀ z
theorem ov2_of {a b : Str} {m' m₀ : Map} (h : ∀ z, z ≠ a → z ≠ b → m' z = m₀ z) : m' = ovA a b m' m₀ := by
  funext z
  unfold ovA
  by_cases h1 : z = a
  · simp only [h1, if_true]
  by_cases h2 : z = b
  · simp only [h2, if_true, ite_self]
  simp only [h1, h2, if_false, h z h1 h2]
theorem ov5_of {a b c d f : Str} {m' m₀ : Map} (h : ∀ z, z ≠ a → z ≠ b → z ≠ c → z ≠ d → z ≠ f → m' z = m₀ z) : m' = ovB a b c d f m' m₀ := by
  funext z
  unfold ovB
  by_cases h1 : z = a
  · simp only [h1, if_true]
  by_cases h2 : z = b
  · simp only [h2, if_true, ite_self]
  by_cases h3 : z = c
  · simp only [h3, if_true, ite_self]
  by_cases h4 : z = d
  · simp only [h4, if_true, ite_self]
  by_cases h5 : z = f
  · simp only [h5, if_true, ite_self]
  simp only [h1, h2, h3, h4, h5, if_false, h z h1 h2 h3 h4 h5]
section
variable {prog : Program} {w : World} {A : Around} {E : Value → Shared → Prop} {s : Shared} {h₀ : Heap} {env : Env} {target : PySem.Expr} {body : List Stmt} {Q : Flow → Shared → Prop}
theorem TurnRest.less {I : Addr} {e : Addr × Obj} : ∀ {vs : List Value} {m : Map} {news news' : Led}, Sub news' news → TurnRest prog w A E h₀ env target body Q s I e vs m news' → TurnRest prog w A E h₀ env target body Q s I e vs m news
  | [], _, _, _, hs, h => fun g tk F N => h g tk F fun p hp => N p (hs p hp)
  | _ :: _, _, _, _, hs, h => fun it g tk F N off => h it g tk F (fun p hp => by
      rcases List.mem_cons.mp hp with rfl | hp
      · exact N _ (.head _)
      · exact N _ (.tail _ (hs p hp))) (off1_of fun p hp => off1_mem off p (hs p hp))
/-- what a turn over a row's atoms leaves -/
inductive AtomNext (w : World) (c : Nat) (pl base : Led) (D : Addr) (n1 n2 : Str) (m₀ : Map) (tl : Led) (ys : List Value) (e : List Int) : Map → Led → Prop where
  | mk {u : Map} {v : Value} {k : Nat} {tl' : Led} : (∀ q ∈ base, ∀ p ∈ tl', q.1 < p.1) → (∀ p ∈ tl', D < p.1) → Sub tl tl' → PairIn w c (pl ++ tl') v e → AtomNext w c pl base D n1 n2 m₀ tl ys e (ovA n1 n2 u m₀) ((D, cellsO (ys ++ [v]) k) :: (base ++ tl'))
theorem atom_turn {c : Nat} {h' : Heap} {L I D : Addr} {it : Obj} {ent : Addr × Obj} {s₁ : Shared} {tk k : Nat} {m₁ m₀ : Map} {n1 n2 : Str} {pl base tl tl' all l1 l2 : Led} {ys : List Value} {v : Value} {e : List Int}
    (F : Fr h₀ L h' m₁) (hm : ∀ z, z ≠ n1 → z ≠ n2 → m₁ z = m₀ z) (N : News h₀ L h' all) (i : (I, it) ∈ all) (d : (D, cellsO (ys ++ [v]) k) ∈ all) (hI : @Ne Nat D I) (k1 : Cut1 I all l1) (k2 : Cut1 D l1 l2) (en : Ends base l2 tl') (hD : ∀ p ∈ tl', D < p.1) (he : ent ∈ base) (hs : Sub tl tl') (P : PairIn w c (pl ++ tl') v e) :
    TurnEnd h₀ L s₁ I it ent (AtomNext w c pl base D n1 n2 m₀ tl ys e) { s₁ with heap := h', toks := tk } :=
  .mk F (news_at N i (news_at N d (N.perm fun p hp => k1.sub _ (k2.sub _ (en.sub _ hp))))) (off1_of (off_cons hI fun p hp => off1_mem k1.off p (k2.sub _ (en.sub _ hp)))) (.tail _ (List.mem_append.mpr (.inl he))) (ov2_of hm ▸ .mk en.ord hD hs P)
/-- what atoms_loop keeps -/
inductive AtomsJ (w : World) (c : Nat) (al pl base : Led) (D : Addr) (n1 n2 : Str) (m₀ : Map) (pre : List (List Int)) (e xs : List Int) (rest : List Value) : Map → Led → Prop where
  | mk {dn ns : List Int} {u : Map} {ys : List Value} {k : Nat} {tl : Led} : dn ++ ns = xs → AtomsIn al rest ns → (∀ q ∈ base, ∀ p ∈ tl, q.1 < p.1) → (∀ p ∈ tl, D < p.1) → PairsIn w c (pl ++ tl) ys (pre ++ dn.map fun a => e ++ [a]) → AtomsJ w c al pl base D n1 n2 m₀ pre e xs rest (ovA n1 n2 u m₀) ((D, cellsO ys k) :: (base ++ tl))
theorem AtomsIn.uncons {al : Led} {v : Value} {r : List Value} {ns : List Int} {P : Value → List Int → Prop} (h : AtomsIn al (v :: r) ns) (k : ∀ q nq a t ns', (q, tupO [.int a t] nq) ∈ al → AtomsIn al r ns' → P (.ref q) (a :: ns')) : P v ns := by
  cases h with | cons a b => exact k _ _ _ _ _ a b
theorem AtomsIn.none {al : Led} {ns dn xs : List Int} (h : AtomsIn al [] ns) (e : dn ++ ns = xs) : dn = xs := by cases h; rw [← e, List.append_nil]
theorem split_at {α : Type} {dn ns xs : List α} {a : α} (h : dn ++ a :: ns = xs) : dn ++ [a] ++ ns = xs := by rw [← h]; simp
theorem split_in {α : Type} {dn ns xs : List α} {a : α} (h : dn ++ a :: ns = xs) : a ∈ xs := by rw [← h]; simp
theorem split_lt {α : Type} {dn ns xs : List α} {a : α} (h : dn ++ a :: ns = xs) : dn.length < xs.length := by rw [← h]; simp
theorem sub_more {pl tl tl' : Led} (h : Sub tl tl') : Sub (pl ++ tl) (pl ++ tl') := Sub.app (Sub.left Sub.refl) (Sub.right h)
theorem pairs_step {w : World} {c : Nat} {pl tl tl' : Led} {ys : List Value} {v : Value} {pre : List (List Int)} {e dn : List Int} {a : Int} (hp : PairsIn w c (pl ++ tl) ys (pre ++ dn.map fun a => e ++ [a])) (hs : Sub tl tl') (hv : PairIn w c (pl ++ tl') v (e ++ [a])) :
    PairsIn w c (pl ++ tl') (ys ++ [v]) (pre ++ (dn ++ [a]).map fun a => e ++ [a]) := by
  rw [List.map_append, ← List.append_assoc]
  exact (hp.mono (sub_more hs)).snoc hv
theorem pairs_few {w : World} {c : Nat} {l : Led} {ys : List Value} {pre : List (List Int)} {e dn xs : List Int} (hp : PairsIn w c l ys (pre ++ dn.map fun a => e ++ [a])) (h : dn.length < xs.length) (hx : xs.length ≤ 2) : ys.length ≤ pre.length + 2 := by
  have := hp.length
  rw [List.length_append, List.length_map] at this; lia
theorem atoms_loop {I D : Addr} {ent : Addr × Obj} {n1 n2 : Str} {all base al pl : Led} {c k₀ : Nat} {m₀ : Map} {e : List Int} {pre : List (List Int)} {xs : List Int} {vs ys₀ : List Value}
    (hD : (D, cellsO ys₀ k₀) ∈ all) (cut : Cut1 D all base) (hA : AtomsIn al vs xs) (hP : PairsIn w c pl ys₀ pre) (hpl : Sub pl base) (hx : xs.length ≤ 2)
    (turn : ∀ bs, bs = base → LCg.Off1 D bs → Sub pl bs → ∀ q a t nq ys k tl (u : Map) it h tk, a ∈ xs → (q, tupO [.int a t] nq) ∈ al → ys.length ≤ pre.length + 2 → (∀ q ∈ bs, ∀ p ∈ tl, q.1 < p.1) → (∀ p ∈ tl, D < p.1) → Fr h₀ env.locals h (ovA n1 n2 u m₀) → News h₀ env.locals h ((I, it) :: (D, cellsO ys k) :: (bs ++ tl)) → LCg.Off1 I ((D, cellsO ys k) :: (bs ++ tl)) →
      wpAny (model prog w) A (assign target env (.ref q)) (fun _ s₂ => wpAny (model prog w) A (execs body env) (TurnPost h₀ env.locals { s with heap := h, toks := tk } I it ent (AtomNext w c pl bs D n1 n2 m₀ tl ys (e ++ [a])) Q) E s₂) E { s with heap := h, toks := tk })
    (done : ∀ (u : Map) ys k tl h tk, PairsIn w c (pl ++ tl) ys (pre ++ xs.map fun a => e ++ [a]) → (∀ q ∈ base, ∀ p ∈ tl, q.1 < p.1) → (∀ p ∈ tl, D < p.1) → Fr h₀ env.locals h (ovA n1 n2 u m₀) → News h₀ env.locals h ((D, cellsO ys k) :: (base ++ tl)) → Q .next { s with heap := h, toks := tk }) :
    TurnRest prog w A E h₀ env target body Q s I ent vs m₀ all := by
  refine TurnRest.less (Sub.one hD ((List.append_nil base).symm ▸ cut.sub)) ?_
  rw [show m₀ = ovA n1 n2 m₀ m₀ from ov2_of fun _ _ _ => rfl]
  refine turn_inv (AtomsJ w c al pl base D n1 n2 m₀ pre e xs) (fun v r m nl it h tk hJ => ?_) (fun m nl h tk hJ => ?_) _ _ _ (.mk (dn := []) rfl hA (fun _ _ _ h => nomatch h) (fun _ h => nomatch h) (by simpa using hP))
  · cases hJ with
    | @mk dn ns u ys k tl hx' hr ho hd hp =>
      intro F N off
      revert hx'
      refine hr.uncons (P := fun v ns => dn ++ ns = xs → wpAny _ _ (assign target env v) _ _ _) fun q nq a t ns hq hr hx' => ?_
      exact turn_mono (fun m nl z => by cases z with | mk ho' hd' hs' hv => exact .mk (split_at hx') hr ho' hd' (pairs_step hp hs' hv))
        (turn base rfl cut.off hpl q a t nq ys k tl u it h tk (split_in hx') hq (pairs_few hp (split_lt hx') hx) ho hd F N off)
  · cases hJ with
    | mk hx' hr ho hd hp => exact fun F N => done _ _ _ _ h tk (hr.none hx' ▸ hp) ho hd F N
/-- what a turn over the pairs leaves -/
inductive EpsNext (w : World) (c : Nat) (pl base : Led) (D dx i : Addr) (k1 k2 k3 t : Tok) (n1 n2 n3 n4 n5 : Str) (m₀ : Map) (wy : Int) (es : List (List Int)) : Map → Led → Prop where
  | mk {u : Map} {ys : List Value} {k : Nat} {tl' : Led} {wy' : Int} {tw' : Tok} : (∀ q ∈ base, ∀ p ∈ tl', q.1 < p.1) → (∀ p ∈ tl', D < p.1) → (∀ p ∈ tl', dx < p.1) → PairsIn w c (pl ++ tl') ys es → 0 ≤ wy' → wy' ≤ wy + 2 →
      EpsNext w c pl base D dx i k1 k2 k3 t n1 n2 n3 n4 n5 m₀ wy es (ovB n1 n2 n3 n4 n5 u m₀) ((D, cellsO ys k) :: (dx, jd w k1 k2 k3 t i wy' tw') :: (base ++ tl'))
theorem eps_turn {c : Nat} {h' : Heap} {L I D dx i : Addr} {k1 k2 k3 t tw' : Tok} {wy wy' : Int} {it : Obj} {ent : Addr × Obj} {s₁ : Shared} {tk k : Nat} {m₁ m₀ : Map} {n1 n2 n3 n4 n5 : Str} {pl base tl' all l1 l2 l3 : Led} {ys : List Value} {es : List (List Int)}
    (F : Fr h₀ L h' m₁) (hm : ∀ z, z ≠ n1 → z ≠ n2 → z ≠ n3 → z ≠ n4 → z ≠ n5 → m₁ z = m₀ z) (N : News h₀ L h' all) (hi : (I, it) ∈ all) (d : (D, cellsO ys k) ∈ all) (x : (dx, jd w k1 k2 k3 t i wy' tw') ∈ all) (hI : @Ne Nat D I) (hX : @Ne Nat dx I) (c1 : Cut1 I all l1) (c2 : Cut1 D l1 l2) (c3 : Cut1 dx l2 l3) (en : Ends base l3 tl') (hD : ∀ p ∈ tl', D < p.1) (hdx : ∀ p ∈ tl', dx < p.1) (he : ent ∈ base)
    (P : PairsIn w c (pl ++ tl') ys es) (w0 : 0 ≤ wy') (w1 : wy' ≤ wy + 2) :
    TurnEnd h₀ L s₁ I it ent (EpsNext w c pl base D dx i k1 k2 k3 t n1 n2 n3 n4 n5 m₀ wy es) { s₁ with heap := h', toks := tk } :=
  .mk F (news_at N hi (news_at N d (news_at N x (N.perm fun p hp => c1.sub _ (c2.sub _ (c3.sub _ (en.sub _ hp))))))) (off1_of (off_cons hI (off_cons hX fun p hp => off1_mem c1.off p (c2.sub _ (c3.sub _ (en.sub _ hp)))))) (.tail _ (.tail _ (List.mem_append.mpr (.inl he)))) (ov5_of hm ▸ .mk en.ord hD hdx P w0 w1)
/-- what eps_loop keeps -/
inductive EpsJ (w : World) (c c' : Nat) (pl base : Led) (D dx i : Addr) (k1 k2 k3 t : Tok) (n1 n2 n3 n4 n5 : Str) (m₀ : Map) (wy₀ : Int) (es : List (List Int)) (xs : List Int) (rest : List Value) : Map → Led → Prop where
  | mk {dn ns : List (List Int)} {u : Map} {ys : List Value} {k : Nat} {tl : Led} {wy : Int} {tw : Tok} : dn ++ ns = es → PairsIn w c' pl rest ns → (∀ q ∈ base, ∀ p ∈ tl, q.1 < p.1) → (∀ p ∈ tl, D < p.1) → (∀ p ∈ tl, dx < p.1) → 0 ≤ wy → wy ≤ wy₀ + 2 * (dn.length : Int) → PairsIn w c (pl ++ tl) ys (grow dn xs) →
      EpsJ w c c' pl base D dx i k1 k2 k3 t n1 n2 n3 n4 n5 m₀ wy₀ es xs rest (ovB n1 n2 n3 n4 n5 u m₀) ((D, cellsO ys k) :: (dx, jd w k1 k2 k3 t i wy tw) :: (base ++ tl))
theorem PairsIn.uncons {w : World} {c : Nat} {pl : Led} {v : Value} {r : List Value} {ns : List (List Int)} {P : Value → List (List Int) → Prop} (h : PairsIn w c pl (v :: r) ns)
    (k : ∀ q at' en nq na its e ns', (q, tupO [.ref at', .ref en] nq) ∈ pl → (at', tupO its na) ∈ pl → its.length ≤ c → EIn w pl (.ref en) e → PairsIn w c pl r ns' → P (.ref q) (e :: ns')) : P v ns := by
  cases h with | cons a b => cases a with | mk x y z u => exact k _ _ _ _ _ _ _ _ x y z u b
theorem PairsIn.none {w : World} {c : Nat} {pl : Led} {ns dn es : List (List Int)} (h : PairsIn w c pl [] ns) (e : dn ++ ns = es) : dn = es := by cases h; rw [← e, List.append_nil]
theorem grow_few {dn : List (List Int)} {xs : List Int} {n : Nat} (h : dn.length < n) (he : n ≤ 2) (hx : xs.length ≤ 2) : (grow dn xs).length ≤ 2 := by
  rw [grow_len]; exact Nat.le_trans (Nat.mul_le_mul (show dn.length ≤ 1 by lia) hx) (by decide)
theorem eps_room {wy wy₀ : Int} {a n : Nat} (h : wy ≤ wy₀ + 2 * (a : Int)) (k : a < n) (he : n ≤ 2) : wy ≤ wy₀ + 4 := by lia
theorem eps_step {wy wy' wy₀ : Int} {dn : List (List Int)} {e : List Int} (h : wy ≤ wy₀ + 2 * (dn.length : Int)) (k : wy' ≤ wy + 2) : wy' ≤ wy₀ + 2 * ((dn ++ [e]).length : Int) := by rw [List.length_append, List.length_singleton]; lia
theorem eps_loop {I D dx i : Addr} {k1 k2 k3 t tw₀ : Tok} {wy₀ : Int} {ent : Addr × Obj} {n1 n2 n3 n4 n5 : Str} {all l1 base pl : Led} {c c' k₀ : Nat} {m₀ : Map} {es : List (List Int)} {xs : List Int} {vs : List Value}
    (hD : (D, cellsO [] k₀) ∈ all) (hX : (dx, jd w k1 k2 k3 t i wy₀ tw₀) ∈ all) (cut : Cut1 D all l1) (cut' : Cut1 dx l1 base) (hP : PairsIn w c' pl vs es) (hpl : Sub pl base) (hx : xs.length ≤ 2) (he : es.length ≤ 2) (hw : 0 ≤ wy₀)
    (turn : ∀ bs, bs = base → LCg.Off1 D bs → LCg.Off1 dx bs → Sub pl bs → ∀ q at' en nq na its e es' ys k tl wy tw (u : Map) it h tk, (q, tupO [.ref at', .ref en] nq) ∈ pl → (at', tupO its na) ∈ pl → its.length ≤ c' → EIn w pl (.ref en) e → e ∈ es → PairsIn w c (pl ++ tl) ys es' → es'.length ≤ 2 → 0 ≤ wy → wy ≤ wy₀ + 4 → (∀ q ∈ bs, ∀ p ∈ tl, q.1 < p.1) → (∀ p ∈ tl, D < p.1) → (∀ p ∈ tl, dx < p.1) →
      Fr h₀ env.locals h (ovB n1 n2 n3 n4 n5 u m₀) → News h₀ env.locals h ((I, it) :: (D, cellsO ys k) :: (dx, jd w k1 k2 k3 t i wy tw) :: (bs ++ tl)) → LCg.Off1 I ((D, cellsO ys k) :: (dx, jd w k1 k2 k3 t i wy tw) :: (bs ++ tl)) →
      wpAny (model prog w) A (assign target env (.ref q)) (fun _ s₂ => wpAny (model prog w) A (execs body env) (TurnPost h₀ env.locals { s with heap := h, toks := tk } I it ent (EpsNext w c pl bs D dx i k1 k2 k3 t n1 n2 n3 n4 n5 m₀ wy (es' ++ xs.map fun a => e ++ [a])) Q) E s₂) E { s with heap := h, toks := tk })
    (done : ∀ (u : Map) ys k tl wy tw h tk, PairsIn w c (pl ++ tl) ys (grow es xs) → (∀ q ∈ base, ∀ p ∈ tl, q.1 < p.1) → (∀ p ∈ tl, D < p.1) → (∀ p ∈ tl, dx < p.1) → 0 ≤ wy → wy ≤ wy₀ + 2 * (es.length : Int) →
      Fr h₀ env.locals h (ovB n1 n2 n3 n4 n5 u m₀) → News h₀ env.locals h ((D, cellsO ys k) :: (dx, jd w k1 k2 k3 t i wy tw) :: (base ++ tl)) → Q .next { s with heap := h, toks := tk }) :
    TurnRest prog w A E h₀ env target body Q s I ent vs m₀ all := by
  refine TurnRest.less (Sub.one hD (Sub.one hX ((List.append_nil base).symm ▸ fun p hp => cut.sub p (cut'.sub p hp)))) ?_
  rw [show m₀ = ovB n1 n2 n3 n4 n5 m₀ m₀ from ov5_of fun _ _ _ _ _ _ => rfl]
  refine turn_inv (EpsJ w c c' pl base D dx i k1 k2 k3 t n1 n2 n3 n4 n5 m₀ wy₀ es xs) (fun v r m nl it h tk hJ => ?_) (fun m nl h tk hJ => ?_) _ _ _
    (.mk (dn := []) rfl hP (fun _ _ _ h => nomatch h) (fun _ h => nomatch h) (fun _ h => nomatch h) hw (by simp) (by simpa [grow] using PairsIn.nil))
  · cases hJ with
    | @mk dn ns u ys k tl wy tw hx' hr ho hd hd' w0 w1 hp =>
      intro F N off
      revert hx'
      refine hr.uncons (P := fun v ns => dn ++ ns = es → wpAny _ _ (assign target env v) _ _ _) fun q at' en nq na its e ns q1 q2 q3 q4 hr hx' => ?_
      have hl := split_lt hx'
      exact turn_mono (fun m nl z => by cases z with | mk ho' hd' hdx' hv x0 x1 => exact .mk (split_at hx') hr ho' hd' hdx' x0 (eps_step w1 x1) (grow_snoc ▸ hv))
        (turn base rfl (off1_of fun p hp => off1_mem cut.off p (cut'.sub _ hp)) cut'.off hpl q at' en nq na its e (grow dn xs) ys k tl wy tw u it h tk q1 q2 q3 q4 (split_in hx') hp (grow_few hl he hx) w0 (eps_room w1 hl he) ho hd hd' F N off)
  · cases hJ with
    | mk hx' hr ho hd hd' w0 w1 hp =>
      have e := hr.none hx'
      exact fun F N => done _ _ _ _ _ _ h tk (e ▸ hp) ho hd hd' w0 (e ▸ w1) F N
end
theorem ov9_of {nf n1 n2 n3 n4 n5 n6 n7 n8 : Str} {f : Addr} {m' m₀ : Map} (hf : m' nf = some (.ref f)) (h : ∀ z, z ≠ nf → z ≠ n1 → z ≠ n2 → z ≠ n3 → z ≠ n4 → z ≠ n5 → z ≠ n6 → z ≠ n7 → z ≠ n8 → m' z = m₀ z) : m' = (ov9 nf n1 n2 n3 n4 n5 n6 n7 n8 f m' m₀) := by
  funext z
  unfold ov9
  by_cases h0 : z = nf
  · subst h0; simp only [if_true]; exact hf
  by_cases h1 : z = n1
  · rw [if_neg h0, if_pos h1]
  by_cases h2 : z = n2
  · rw [if_neg h0, if_neg h1, if_pos h2]
  by_cases h3 : z = n3
  · rw [if_neg h0, if_neg h1, if_neg h2, if_pos h3]
  by_cases h4 : z = n4
  · rw [if_neg h0, if_neg h1, if_neg h2, if_neg h3, if_pos h4]
  by_cases h5 : z = n5
  · rw [if_neg h0, if_neg h1, if_neg h2, if_neg h3, if_neg h4, if_pos h5]
  by_cases h6 : z = n6
  · rw [if_neg h0, if_neg h1, if_neg h2, if_neg h3, if_neg h4, if_neg h5, if_pos h6]
  by_cases h7 : z = n7
  · rw [if_neg h0, if_neg h1, if_neg h2, if_neg h3, if_neg h4, if_neg h5, if_neg h6, if_pos h7]
  by_cases h8 : z = n8
  · rw [if_neg h0, if_neg h1, if_neg h2, if_neg h3, if_neg h4, if_neg h5, if_neg h6, if_neg h7, if_pos h8]
  rw [if_neg h0, if_neg h1, if_neg h2, if_neg h3, if_neg h4, if_neg h5, if_neg h6, if_neg h7, if_neg h8]; exact h z h0 h1 h2 h3 h4 h5 h6 h7 h8
noncomputable abbrev rowsO (S : Int → List Int) (rs : List Int) (e : List Int) : List (List Int) := rowsE S rs [e]
noncomputable def capR : Nat → Int
  | 0 => 0
  | 1 => 2
  | _ => 6
theorem rowsO_snoc {S : Int → List Int} {dn : List Int} {r : Int} {e : List Int} : rowsO S (dn ++ [r]) e = grow (rowsO S dn e) (S r) := by
  unfold rowsO rowsE; rw [List.foldl_append]; rfl
theorem rowsO_at {S : Int → List Int} {e : List Int} : ∀ (rs : List Int), ∀ e' ∈ rowsO S rs e, e'.length = e.length + rs.length := by
  have : ∀ (rs : List Int) (es : List (List Int)) (k : Nat), (∀ e' ∈ es, e'.length = k) → ∀ e' ∈ rs.foldl (fun es r => grow es (S r)) es, e'.length = k + rs.length := by
    intro rs
    induction rs with
    | nil => intro es k h e' he; exact h e' he
    | cons r rs ih =>
      intro es k h e' he
      have := ih (grow es (S r)) (k + 1) (grow_at h) e' he
      rw [this, List.length_cons]; lia
  exact fun rs => this rs [e] e.length fun e' he => by rw [List.mem_singleton.mp he]
section
variable {prog : Program} {w : World} {A : Around} {E : Value → Shared → Prop} {s : Shared} {h₀ : Heap} {env : Env} {target : PySem.Expr} {body : List Stmt} {Q : Flow → Shared → Prop}
/-- what a turn over the declarations leaves -/
inductive DecNext (w : World) (c : Nat) (pl base : Led) (dx i : Addr) (k1 k2 k3 t : Tok) (nf n1 n2 n3 n4 n5 n6 n7 n8 : Str) (m₀ : Map) (wy : Int) (n : Int) (es : List (List Int)) : Map → Led → Prop where
  | mk {u : Map} {f : Addr} {vs : List Value} {kf : Nat} {tl' : Led} {wy' : Int} {tw' : Tok} : (∀ q ∈ base, ∀ p ∈ tl', q.1 < p.1) → (∀ p ∈ tl', dx < p.1) → (f, cellsO vs kf) ∈ pl ++ tl' → PairsIn w (c + 1) (pl ++ tl') vs es → 0 ≤ wy' → wy' ≤ wy + 2 * n →
      DecNext w c pl base dx i k1 k2 k3 t nf n1 n2 n3 n4 n5 n6 n7 n8 m₀ wy n es (ov9 nf n1 n2 n3 n4 n5 n6 n7 n8 f u m₀) ((dx, jd w k1 k2 k3 t i wy' tw') :: (base ++ tl'))
theorem dec_turn {c : Nat} {h' : Heap} {L I f dx i : Addr} {k1 k2 k3 t tw' : Tok} {wy wy' n : Int} {it : Obj} {ent : Addr × Obj} {s₁ : Shared} {tk kf : Nat} {m₁ m₀ : Map} {nf n1 n2 n3 n4 n5 n6 n7 n8 : Str} {pl base tl' all l1 l2 : Led} {vs : List Value} {es : List (List Int)}
    (F : Fr h₀ L h' m₁) (hmf : m₁ nf = some (.ref f)) (hm : ∀ z, z ≠ nf → z ≠ n1 → z ≠ n2 → z ≠ n3 → z ≠ n4 → z ≠ n5 → z ≠ n6 → z ≠ n7 → z ≠ n8 → m₁ z = m₀ z) (N : News h₀ L h' all) (hi : (I, it) ∈ all) (x : (dx, jd w k1 k2 k3 t i wy' tw') ∈ all) (hX : @Ne Nat dx I) (c1 : Cut1 I all l1) (c2 : Cut1 dx l1 l2) (en : Ends base l2 tl') (hdx : ∀ p ∈ tl', dx < p.1) (he : ent ∈ base)
    (hf : (f, cellsO vs kf) ∈ pl ++ tl') (P : PairsIn w (c + 1) (pl ++ tl') vs es) (w0 : 0 ≤ wy') (w1 : wy' ≤ wy + 2 * n) :
    TurnEnd h₀ L s₁ I it ent (DecNext w c pl base dx i k1 k2 k3 t nf n1 n2 n3 n4 n5 n6 n7 n8 m₀ wy n es) { s₁ with heap := h', toks := tk } :=
  .mk F (news_at N hi (news_at N x (N.perm fun p hp => c1.sub _ (c2.sub _ (en.sub _ hp))))) (off1_of (off_cons hX fun p hp => off1_mem c1.off p (c2.sub _ (en.sub _ hp)))) (.tail _ (List.mem_append.mpr (.inl he))) (ov9_of hmf hm ▸ .mk en.ord hdx hf P w0 w1)
/-- what decs_loop keeps -/
inductive DecsJ (w : World) (dl pl base : Led) (dx i : Addr) (k1 k2 k3 t : Tok) (nf n1 n2 n3 n4 n5 n6 n7 n8 : Str) (m₀ : Map) (wy₀ : Int) (S : Int → List Int) (e0 rs : List Int) (rest : List Value) : Map → Led → Prop where
  | mk {dn ns : List Int} {u : Map} {f : Addr} {vs : List Value} {kf : Nat} {tl : Led} {wy : Int} {tw : Tok} : dn ++ ns = rs → DecsIn dl rest (e0.length + dn.length) ns → (∀ q ∈ base, ∀ p ∈ tl, q.1 < p.1) → (∀ p ∈ tl, dx < p.1) → 0 ≤ wy → wy ≤ wy₀ + capR dn.length → (rowsO S dn e0).length ≤ 2 ^ dn.length → (f, cellsO vs kf) ∈ pl ++ tl → PairsIn w dn.length (pl ++ tl) vs (rowsO S dn e0) →
      DecsJ w dl pl base dx i k1 k2 k3 t nf n1 n2 n3 n4 n5 n6 n7 n8 m₀ wy₀ S e0 rs rest (ov9 nf n1 n2 n3 n4 n5 n6 n7 n8 f u m₀) ((dx, jd w k1 k2 k3 t i wy tw) :: (base ++ tl))
theorem DecsIn.uncons {dl : Led} {v : Value} {r : List Value} {k : Nat} {ns : List Int} {P : List Int → Prop} (h : DecsIn dl (v :: r) k ns) (g : ∀ r' ns', DecIn dl v k r' → DecsIn dl r (k + 1) ns' → P (r' :: ns')) : P ns := by
  cases h with | cons a b => exact g _ _ a b
theorem DecsIn.none {dl : Led} {k : Nat} {ns dn rs : List Int} (h : DecsIn dl [] k ns) (e : dn ++ ns = rs) : dn = rs := by cases h; rw [← e, List.append_nil]
theorem cap_of {d n : Nat} (hl : n ≤ 2 ^ d) (h : d ≤ 1) : capR d ≤ 2 ∧ capR d + 2 * (n : Int) ≤ capR (d + 1) := by
  obtain rfl | rfl : d = 0 ∨ d = 1 := by lia
  · simp only [capR]; simp only [Nat.pow_zero] at hl; lia
  · simp only [capR]; lia
theorem dec_len {dn rs : List Int} {n : Nat} (h : dn.length < rs.length) : n + dn.length < n + rs.length := by lia
theorem dec_cap {wy wy' wy₀ : Int} {d n : Nat} {dn : List Int} {r : Int} (hd : dn.length = d) (w1 : wy ≤ wy₀ + capR d) (hc : capR d + 2 * (n : Int) ≤ capR (d + 1)) (x : wy' ≤ wy + 2 * (n : Int)) : wy' ≤ wy₀ + capR (dn ++ [r]).length := by
  rw [List.length_append, List.length_singleton, hd]; lia
theorem dec_pow {S : Int → List Int} {dn e0 : List Int} {r : Int} (hl : (rowsO S dn e0).length ≤ 2 ^ dn.length) (hS : (S r).length ≤ 2) : (rowsO S (dn ++ [r]) e0).length ≤ 2 ^ (dn ++ [r]).length := by
  rw [rowsO_snoc, grow_len, List.length_append, List.length_singleton, Nat.pow_succ]; exact Nat.mul_le_mul hl hS
theorem dec_at {dl : Led} {r : List Value} {n k : Nat} {dn ns : List Int} {a : Int} (h : DecsIn dl r (n + k + 1) ns) (e : dn.length = k) : DecsIn dl r (n + (dn ++ [a]).length) ns := by
  subst e; rw [List.length_append, List.length_singleton, ← Nat.add_assoc]; exact h
theorem dec_prs {w : World} {l : Led} {vs : List Value} {S : Int → List Int} {dn e0 : List Int} {r : Int} (h : PairsIn w (dn.length + 1) l vs (grow (rowsO S dn e0) (S r))) : PairsIn w (dn ++ [r]).length l vs (rowsO S (dn ++ [r]) e0) := by
  rw [rowsO_snoc, List.length_append, List.length_singleton]; exact h
theorem dec_few {S : Int → List Int} {dn e0 : List Int} (hl : (rowsO S dn e0).length ≤ 2 ^ dn.length) (h : dn.length ≤ 1) : (rowsO S dn e0).length ≤ 2 := Nat.le_trans hl (Nat.le_trans (Nat.pow_le_pow_right (by decide) h) (by decide))
theorem dec_room {wy wy₀ c : Int} (h : wy ≤ wy₀ + c) (k : c ≤ 2) : wy ≤ wy₀ + 6 := by lia
theorem decs_loop {I dx i f₀ : Addr} {k1 k2 k3 t tw₀ : Tok} {wy₀ : Int} {ent : Addr × Obj} {nf n1 n2 n3 n4 n5 n6 n7 n8 : Str} {all base dl nws nr tl₀ : Led} {k₀ : Nat} {m₀ : Map} {S : Int → List Int} {rs : List Int} {e0 : List Int} {vs ds : List Value}
    (hX : (dx, jd w k1 k2 k3 t i wy₀ tw₀) ∈ all) (cut : Cut1 dx all base) (en : Ends nws base tl₀) (hnr : Sub nr nws) (hf : m₀ nf = some (.ref f₀)) (hfm : (f₀, cellsO vs k₀) ∈ tl₀) (hP : PairsIn w 0 (nr ++ tl₀) vs [e0]) (hD : DecsIn dl ds e0.length rs) (hrs : rs.length ≤ 2) (hw : 0 ≤ wy₀) (hS2 : ∀ r, isRel r → (S r).length ≤ 2)
    (turn : ∀ bs ps, bs = base → LCg.Off1 dx bs → Sub ps bs → Sub nr ps → ∀ v k r es c vs f kf tl wy tw (u : Map) it h tk, DecIn dl v k r → isRel r → k < e0.length + rs.length → PairsIn w c (ps ++ tl) vs es → c ≤ 1 → (f, cellsO vs kf) ∈ ps ++ tl → (∀ e ∈ es, e.length = k) → es.length ≤ 2 → 0 ≤ wy → wy ≤ wy₀ + 6 → (∀ q ∈ bs, ∀ p ∈ tl, q.1 < p.1) → (∀ p ∈ tl, dx < p.1) →
      Fr h₀ env.locals h (ov9 nf n1 n2 n3 n4 n5 n6 n7 n8 f u m₀) → News h₀ env.locals h ((I, it) :: (dx, jd w k1 k2 k3 t i wy tw) :: (bs ++ tl)) → LCg.Off1 I ((dx, jd w k1 k2 k3 t i wy tw) :: (bs ++ tl)) →
      wpAny (model prog w) A (assign target env v) (fun _ s₂ => wpAny (model prog w) A (execs body env) (TurnPost h₀ env.locals { s with heap := h, toks := tk } I it ent (DecNext w c ps bs dx i k1 k2 k3 t nf n1 n2 n3 n4 n5 n6 n7 n8 m₀ wy (es.length : Int) (grow es (S r))) Q) E s₂) E { s with heap := h, toks := tk })
    (done : ∀ (u : Map) f vs kf tl wy tw h tk, PairsIn w rs.length (nr ++ tl₀ ++ tl) vs (rowsO S rs e0) → (f, cellsO vs kf) ∈ nr ++ tl₀ ++ tl → (∀ q ∈ base, ∀ p ∈ tl, q.1 < p.1) → (∀ p ∈ tl, dx < p.1) → 0 ≤ wy → wy ≤ wy₀ + capR rs.length →
      Fr h₀ env.locals h (ov9 nf n1 n2 n3 n4 n5 n6 n7 n8 f u m₀) → News h₀ env.locals h ((dx, jd w k1 k2 k3 t i wy tw) :: (base ++ tl)) → Q .next { s with heap := h, toks := tk }) :
    TurnRest prog w A E h₀ env target body Q s I ent ds m₀ all := by
  refine TurnRest.less (Sub.one hX ((List.append_nil base).symm ▸ cut.sub)) ?_
  have hpl : Sub (nr ++ tl₀) base := fun p hp => en.sub p ((List.mem_append.mp hp).elim (fun z => List.mem_append.mpr (.inl (hnr p z))) fun z => List.mem_append.mpr (.inr z))
  rw [show m₀ = ov9 nf n1 n2 n3 n4 n5 n6 n7 n8 f₀ m₀ m₀ from ov9_of hf fun _ _ _ _ _ _ _ _ _ _ => rfl]
  refine turn_inv (DecsJ w dl (nr ++ tl₀) base dx i k1 k2 k3 t nf n1 n2 n3 n4 n5 n6 n7 n8 m₀ wy₀ S e0 rs) (fun v r m nl it h tk hJ => ?_) (fun m nl h tk hJ => ?_) _ _ _
    (.mk (dn := []) rfl hD (fun _ _ _ h => nomatch h) (fun _ h => nomatch h) hw (by simp [capR]) (by simp [rowsO, rowsE]) (List.mem_append.mpr (.inl (List.mem_append.mpr (.inr hfm)))) (by simpa [rowsO, rowsE] using hP))
  · cases hJ with
    | @mk dn ns u f vs kf tl wy tw hx' hr ho hd w0 w1 hl hfm hp =>
      intro F N off
      revert hx'
      refine hr.uncons (P := fun ns => dn ++ ns = rs → wpAny _ _ (assign target env v) _ _ _) fun r' ns hq hr hx' => ?_
      have hlt := split_lt hx'
      have hlen : dn.length ≤ 1 := Nat.le_of_lt_succ (Nat.lt_of_lt_of_le hlt hrs)
      have hcap := cap_of hl hlen
      exact turn_mono (fun m nl z => by cases z with | mk ho' hd' hf' hv x0 x1 => exact .mk (split_at hx') (dec_at hr rfl) ho' hd' x0 (dec_cap rfl w1 hcap.2 x1) (dec_pow hl (hS2 r' hq.rel)) hf' (dec_prs hv))
        (turn base (nr ++ tl₀) rfl cut.off hpl (Sub.left Sub.refl) v _ r' (rowsO S dn e0) dn.length vs f kf tl wy tw u it h tk hq hq.rel (dec_len hlt) hp hlen hfm (rowsO_at dn) (dec_few hl hlen) w0 (dec_room w1 hcap.1) ho hd F N off)
  · cases hJ with
    | mk hx' hr ho hd w0 w1 hl hfm hp =>
      have e := hr.none hx'
      exact fun F N => done _ _ _ _ _ _ _ h tk (e ▸ hp) hfm ho hd w0 (e ▸ w1) F N
end
end Mine
end

section
open PySem PySem.W PyProof.Rows PySem.Spec PySem.Calls
set_option Elab.async false
set_option maxRecDepth 100000
namespace Mine
inductive OpRel (w : World) (news : Led) : List Value → List Int × List Int → Prop where
  | mk {a : Addr} {ev : Value} {vs : List Value} {n : Nat} {rs e : List Int} : (a, tupO vs n) ∈ news → DecsIn news vs e.length rs → rs.length ≤ 2 → e.length + rs.length ≤ 7 → EIn w news ev e → OpRel w news [.ref a, ev] (rs, e)
noncomputable abbrev opSize (_ : List Int × List Int) : Nat := 30
noncomputable abbrev opCost (d : List Int × List Int) : Int := capR d.1.length
noncomputable abbrev opOut (w : World) (S : Int → List Int) (news : Led) (r : Value) (d : List Int × List Int) : Prop := ∃ a vs n, r = .ref a ∧ (a, cellsO vs n) ∈ news ∧ PairsIn w d.1.length news vs (rowsO S d.1 d.2)
section
variable {prog : Program} {w : World} {A : Around} {E : Value → Shared → Prop} {s : Shared} {h₀ : Heap} {L : Addr} {m : Str → Option Value} {news : Led} {Q : Value → Shared → Prop}
theorem add_atoms {t b : Addr} {vs : List Value} {x : Value} {n n' c : Nat} {nb : Led} (F : Fr h₀ L s.heap m) (N : News h₀ L s.heap news) (ht : (t, tupO vs n) ∈ news) (hb : (b, tupO [x] n') ∈ nb) (hs : Sub nb news) (hl : vs.length ≤ c) (hc : c ≤ 8)
    (h : ∀ r tl zs k h', Fr h₀ L h' m → News h₀ L h' (news ++ tl) → (∀ q ∈ news, ∀ p ∈ tl, q.1 < p.1) → (r, tupO zs k) ∈ nb ++ tl → zs.length ≤ c + 1 → Q (.ref r) { s with heap := h' }) :
    wpAny (model prog w) A (binaryOp .Add (.ref t) (.ref b)) Q E s := by
  have hsz : (16 : Nat) ≤ sizeLine := by decide +kernel
  refine add_tuples (vs := vs) (ws := [x]) F N (News.isTup N ht) (News.isTup N (hs _ hb)) (fun _ => ?_) (fun _ q => absurd q (by simp)) (fun _ _ h' F' N' => ?_) (by simp only [List.length_singleton]; lia)
  · exact h b [] [x] n' s.heap F (fun p hp => N p (by simpa using hp)) (fun _ _ _ z => nomatch z) (List.mem_append.mpr (.inl hb)) (by simp)
  · refine h s.heap.objs.size [(s.heap.objs.size, tupO (vs ++ [x]) 0)] (vs ++ [x]) 0 h' F' (fun p hp => N' p ?_) (fun q hq p hp => ?_) (List.mem_append.mpr (.inr (.head _))) (by simp only [List.length_append, List.length_singleton]; lia)
    · rcases List.mem_append.mp hp with hp | hp
      · exact .tail _ hp
      · rw [List.mem_singleton.mp hp]; exact .head _
    · rw [List.mem_singleton.mp hp]; exact Heap.lt_size (N q hq).1
theorem dict_env {mean : ExcName → Option Value} {mg mb : Str → Option Value} {o : Addr} {oo : Obj} {kvs : List (Str × Value)} (F : Fr h₀ L s.heap m) (N : News h₀ L s.heap news) (T : Top PV LS mean mg mb h₀) (hm : (o, oo) ∈ news) (hy : (o == sysModules) = false) (ho : oo.IsDictOf (SK w) kvs) (hl : kvs.length ≤ 8)
    (h : ∀ D o' h', Fr h₀ L h' m → News h₀ L h' ((D, o') :: news) → (∀ p ∈ news, p.1 < D) → (D == sysModules) = false → o'.IsDictOf (SK w) kvs → Q (.ref D) { s with heap := h' }) :
    wpAny (model PySem.Challenge.rw_rr0087_01.row.prog w) A (call (.type "dict") [.ref o]) Q E s := by
  have hsz : (16 : Nat) ≤ sizeLine := by decide +kernel
  refine kt_call_dict (knd := SK w) hy (dict_of (N _ hm).1 ho) (by lia) fun h' hmm hs => ?_
  obtain ⟨o', ho', hd'⟩ := Heap.dictOf_iff.mp hmm
  have N1 := News.push F N { cls := .type "dict", data := .dict #[] }
  exact h _ o' h' ((F.push _).change hs (N1 _ (.head _)).2.1 (N1.fresh (.head _))) (N1.setHead N.apart hs ho') (fun p hp => Heap.lt_size (N p hp).1) (F.notModules (modules_low (topRead_of T).nolimit)) hd'
theorem set_env {d : Addr} {o : Obj} {kvs : List (Str × Value)} {x : Str} {tx : Tok} {v : Value} {Q : Unit → Shared → Prop} {rest : Led} (F : Fr h₀ L s.heap m) (N : News h₀ L s.heap news) (hm : (d, o) ∈ news) (cut : Cut1 d news rest) (hd : o.IsDictOf (SK w) kvs) (hl : kvs.length ≤ 8)
    (h : ∀ h' o' tk, Fr h₀ L h' m → News h₀ L h' ((d, o') :: rest) → o'.IsDictOf (SK w) (stored kvs x v) → Q () { s with heap := h', toks := tk }) : wpAny (model PySem.Challenge.rw_rr0087_01.row.prog w) A (setItem (.ref d) (.str x tx) v) Q E s := by
  have hsz : (16 : Nat) ≤ sizeLine := by decide +kernel
  have N' : News h₀ L s.heap ((d, o) :: rest) := fun p hp => by
    rcases List.mem_cons.mp hp with rfl | hp
    · exact N _ hm
    · exact N _ (cut.sub _ hp)
  exact kda_set (knd := SK w) F N' (.head (off1_mem cut.off)) hd (strKind_is _ _ _ _) (by lia) fun h' o' F' N' hd' => h h' o' _ F' N' hd'
theorem append_led {D : Addr} {ys : List Value} {k : Nat} {x : Value} {rest : Led} (F : Fr h₀ L s.heap m) (N : News h₀ L s.heap news) (hm : (D, cellsO ys k) ∈ news) (cut : Cut1 D news rest) (hl : ys.length ≤ 50)
    (h : ∀ h' k', Fr h₀ L h' m → News h₀ L h' ((D, cellsO (ys ++ [x]) k') :: rest) → Q .none { s with heap := h' }) : wpAny (model prog w) A (call (.builtin "list.append") [.ref D, x]) Q E s := by
  have hsz : (64 : Nat) ≤ sizeLine := by decide +kernel
  have N' : News h₀ L s.heap ((D, cellsO ys k) :: rest) := fun p hp => by
    rcases List.mem_cons.mp hp with rfl | hp
    · exact N _ hm
    · exact N _ (cut.sub _ hp)
  have e : ys.toArray.push x = (ys ++ [x]).toArray := by simp
  refine append_K (its := ys.toArray) (n := k) (x := x) F N' (.head (off1_mem cut.off)) (fun h' F' N2 => ?_) (by rw [List.size_toArray]; lia)
  rw [e] at N2
  exact h h' (k + 1) F' N2
end
theorem eval_env {w : World} {led : Led} {e : List Int} {a : Int} {t : Tok} {p q d : Addr} {o : Obj} {n1 n2 k : Nat} {kvs : List (Str × Value)} {nr : Led} (hk : EKV nr 0 e kvs) (hs : Sub nr led) (hke : e.length = k) (h7 : k < 7) (ho : o.IsDictOf (SK w) (stored kvs (xname k) (.ref p))) (hm : (d, o) ∈ led) (hy : (d == sysModules) = false) (hp : (p, tupO [.ref q] n1) ∈ led) (hq : (q, tupO [.int a t] n2) ∈ led) : EIn w led (.ref d) (e ++ [a]) := by
  subst hke
  have h1 := hk.stored (v := .ref p) (by lia)
  rw [Nat.zero_add] at h1
  rw [h1] at ho
  have h2 := (hk.mono hs).snoc hp hq
  rw [Nat.zero_add] at h2
  exact .mk hm hy ho h2 (by simp only [List.length_append, List.length_singleton]; lia)
theorem capR_0 (n : Nat) : 0 ≤ capR n := by
  match n with
  | 0 => decide
  | 1 => decide
  | _ + 2 => exact (by decide : (0 : Int) ≤ 6)
theorem ekv_le {news : Led} {n : Nat} {e : List Int} {kvs : List (Str × Value)} (h : EKV news n e kvs) (hl : e.length ≤ 8) : kvs.length ≤ 8 := by rw [h.length]; exact hl
theorem off1_cons {D a : Addr} {o : Obj} {r : Led} (h : @Ne Nat a D) (k : LCg.Off1 D r) : LCg.Off1 D ((a, o) :: r) := ⟨h, k⟩
theorem S_le {news : Led} {i : Addr} {S : Int → List Int} (h : InstIn news i S) : ∀ r, isRel r → (S r).length ≤ 2 := by
  cases h with
  | mk _ _ _ _ _ x y =>
    intro r hr
    obtain rfl | rfl : r = 0 ∨ r = 1 := by have := hr.1; have := hr.2; lia
    · exact x
    · exact y
end Mine
end

section
open PySem PySem.W PyProof.Rows PySem.Spec PySem.Calls
set_option Elab.async false
set_option maxRecDepth 100000
namespace Mine
section
variable {prog : Program} {w : World} {A : Around} {E : Value → Shared → Prop} {s : Shared} {h₀ : Heap} {L : Addr} {m : Str → Option Value} {env : Env}
/-- an element's end: a bool -/
noncomputable def BoolEnd (w : World) (h₀ : Heap) (L : Addr) (m : Map) (s₁ : Shared) (I : Addr) (oI : Obj) (C : Addr) (oC : Obj) (D : Addr) (oD : Obj) (dx i : Addr) (k1 k2 k3 t : Tok) (base tl : Led) (top : Int) (b : Bool) (yv : Value) (s₂ : Shared) : Prop :=
  ∃ h' tk tl' wy' tw', s₂ = { s₁ with heap := h', toks := tk } ∧ yv = .bool b ∧ Fr h₀ L h' m ∧ News h₀ L h' ((I, oI) :: (C, oC) :: (D, oD) :: (dx, jd w k1 k2 k3 t i wy' tw') :: (base ++ tl')) ∧ (∀ q ∈ base, ∀ p ∈ tl', q.1 < p.1) ∧ (∀ p ∈ tl', dx < p.1) ∧ LCg.Off3 I C D ((dx, jd w k1 k2 k3 t i wy' tw') :: (base ++ tl')) ∧ 0 ≤ wy' ∧ wy' ≤ top
theorem bool_end {s₁ : Shared} {I C D dx i : Addr} {k1 k2 k3 t tw' : Tok} {oI oC oD : Obj} {base tl tl' all l1 l2 : Led} {top wy' : Int} {b b' : Bool} {h' : Heap} {tk : Nat} (F : Fr h₀ L h' m) (N : News h₀ L h' all) (hi : (I, oI) ∈ all) (c : (C, oC) ∈ all) (d : (D, oD) ∈ all)
    (k : Cut I C D all l1) (x : (dx, jd w k1 k2 k3 t i wy' tw') ∈ l1) (kx : Cut1 dx l1 l2) (en : Ends base l2 tl') (hdx : ∀ p ∈ tl', dx < p.1) (w0 : 0 ≤ wy') (w1 : wy' ≤ top) (hb : b' = b) : BoolEnd w h₀ L m s₁ I oI C oC D oD dx i k1 k2 k3 t base tl top b (.bool b') { s₁ with heap := h', toks := tk } := by
  subst hb
  have hx := k.off.mem _ x
  exact ⟨h', tk, tl', wy', tw', rfl, rfl, F, fun p hp => by
    rcases List.mem_cons.mp hp with rfl | hp
    · exact N _ hi
    · rcases List.mem_cons.mp hp with rfl | hp
      · exact N _ c
      · rcases List.mem_cons.mp hp with rfl | hp
        · exact N _ d
        · rcases List.mem_cons.mp hp with rfl | hp
          · exact N _ (k.sub _ x)
          · exact N _ (k.sub _ (kx.sub _ (en.sub _ hp))), en.ord, hdx, ⟨hx, LCg.Off3.of (ends_led en fun p hp => k.off.mem p (kx.sub _ hp))⟩, w0, w1⟩
theorem pairs_src {elt : PySem.Expr} {x x₂ : Str} {scope : Scope} {cl : List (Str × Addr)} {Fin : Shared → List Value → Led → Prop} {ax dx i : Addr} {k1 k2 k3 t tw₀ : Tok} {wy₀ : Int} {vs : List Value} {n c : Nat} {l base pl : Led} {s₁ : Shared} {es : List (List Int)} {p : List Int → Bool} {C nm : Int}
    (hh : A.handled = none) (F : Fr h₀ L s₁.heap m) (N : News h₀ L s₁.heap l) (hX : (dx, jd w k1 k2 k3 t i wy₀ tw₀) ∈ l) (cut : Cut1 dx l base) (hm : (ax, cellsO vs n) ∈ base) (hP : PairsIn w c pl vs es) (hpl : Sub pl base) (hsz : (es.length : Int) ≤ nm) (hnm : nm ≤ 10) (hw : 0 ≤ wy₀) (hC : 0 ≤ C)
    (turn : ∀ bs, bs = base → LCg.Off1 dx bs → Sub pl bs → ∀ en e v₁ wy tw ys tl I oI Cc oC D m₂ h tk (E' : Value → Shared → Prop), EIn w pl (.ref en) e → e ∈ es → 0 ≤ wy → wy + C ≤ wy₀ + nm * C → (∀ q ∈ bs, ∀ p ∈ tl, q.1 < p.1) → (∀ p ∈ tl, dx < p.1) → LCg.NsObj oC m₂ → m₂ x = some v₁ → m₂ x₂ = some (.ref en) → Fr h₀ L h m →
      News h₀ L h ((I, oI) :: (Cc, oC) :: (D, LCg.lst ys) :: (dx, jd w k1 k2 k3 t i wy tw) :: (bs ++ tl)) → LCg.Off3 I Cc D ((dx, jd w k1 k2 k3 t i wy tw) :: (bs ++ tl)) → ((@Ne Nat I Cc) ∧ (@Ne Nat I D) ∧ (@Ne Nat Cc D)) →
      wpAny (model prog w) A (eval elt (compEnvC scope cl Cc env)) (BoolEnd w h₀ L m { s₁ with heap := h, toks := tk } I oI Cc oC D (LCg.lst ys) dx i k1 k2 k3 t bs tl (wy + C) (p e)) E' { s₁ with heap := h, toks := tk })
    (fin : ∀ g ys tl wy tw, LSm.BoolsAre ys (es.map p) → (∀ q ∈ base, ∀ p ∈ tl, q.1 < p.1) → (∀ p ∈ tl, dx < p.1) → 0 ≤ wy → wy ≤ wy₀ + nm * C → Fin { s₁ with heap := g } ys ((dx, jd w k1 k2 k3 t i wy tw) :: (base ++ tl))) :
    LCp.SrcLP prog w A h₀ L m env elt x x₂ scope cl Fin (.ref ax) s₁ := by
  have hvl := hP.length
  have hbig : (16 : Nat) ≤ sizeLine := by decide +kernel
  have N0 : News h₀ L s₁.heap ((dx, jd w k1 k2 k3 t i wy₀ tw₀) :: (base ++ [])) := fun p hp => by
    rcases List.mem_cons.mp hp with rfl | hp
    · exact N _ hX
    · rw [List.append_nil] at hp; exact N _ (cut.sub _ hp)
  refine LCp.SrcLP.ledger (k := n) hh F N0 (.tail _ (List.mem_append.mpr (.inl hm))) (by rw [List.size_toArray]; lia) fun g => ?_
  have all : ∀ k j ys tl wy tw, j + k = es.length → LSm.BoolsAre ys ((es.take j).map p) → (∀ q ∈ base, ∀ p ∈ tl, q.1 < p.1) → (∀ p ∈ tl, dx < p.1) → 0 ≤ wy → wy ≤ wy₀ + (j : Int) * C →
      LCp.CompRestP prog w A h₀ L m env elt x x₂ scope cl { s₁ with heap := g } (LCg.SrcAt h₀ ax vs.toArray) (fun i v => vs.toArray[i]? = some v) (Fin { s₁ with heap := g }) k j ys ((dx, jd w k1 k2 k3 t i wy tw) :: (base ++ tl)) := by
    intro k
    induction k with
    | zero =>
      intro j ys tl wy tw hj hb ho hd w0 w1
      obtain rfl : j = es.length := by lia
      rw [List.take_length] at hb
      have : (es.length : Int) * C ≤ nm * C := Int.mul_le_mul_of_nonneg_right hsz hC
      exact LCp.CompRestP.zero (fin g ys tl wy tw hb ho hd w0 (by lia))
    | succ k ih =>
      intro j ys tl wy tw hj hb ho hd w0 w1
      refine LCp.CompRestP.succ fun v hv => ?_
      have hv' : vs[j]? = some v := by simpa using hv
      obtain ⟨e, he, hp⟩ := hP.get hv'
      cases hp with
      | @mk q at' en nq na its _ q1 q2 q3 q4 =>
        refine ⟨q, _, .ref at', .ref en, nq, rfl, .tail _ (List.mem_append.mpr (.inl (hpl _ q1))), rfl, rfl, ?_⟩
        intro I oI Cc oC D m₂ h tk E' hC' hx hx2 F' N' off nes
        have hmul : ((j : Int) + 1) * C ≤ nm * C := Int.mul_le_mul_of_nonneg_right (by lia) hC
        have hj1 : ((j : Int) + 1) * C = (j : Int) * C + C := by rw [Int.add_mul, Int.one_mul]
        refine wpAny_mono (turn base rfl cut.off hpl en e _ wy tw ys tl I oI Cc oC D m₂ h tk E' q4 (List.mem_of_getElem? he) w0 (by lia) ho hd hC' hx hx2 F' N' off nes) (fun yv s₂ h₂ => ?_) fun _ _ z => z
        obtain ⟨h', tk', tl', wy', tw', rfl, rfl, F2, N2, ho2, hd2, off2, x0, x1⟩ := h₂
        refine comp_end F2 N2 (.head _) (.tail _ (.head _)) (.tail _ (.tail _ (.head _))) (Cut.skipI (Cut.skipC (Cut.skipD (Cut.base off2)))) (src_at (.tail _ (List.mem_append.mpr (.inl hm)))) ?_
        refine ih (j + 1) _ tl' wy' tw' (by lia) ?_ ho2 hd2 x0 (by push_cast; lia)
        rw [List.take_add_one, he, List.map_append]
        have snoc : ∀ {ys : List Value} {bs : List Bool} (b : Bool), LSm.BoolsAre ys bs → LSm.BoolsAre (ys ++ [.bool b]) (bs ++ [b]) := by
          intro ys bs b h
          induction h with
          | nil => exact .cons b .nil
          | cons b' _ ih => exact .cons b' ih
        exact snoc (p e) hb
  have := all es.length 0 [] [] wy₀ tw₀ (by lia) .nil (fun _ _ _ h => nomatch h) (fun _ h => nomatch h) hw (by simp)
  rw [List.size_toArray, hvl]
  exact this
theorem all_led {Q : Value → Shared → Prop} {D : Addr} {ys : List Value} {bs : List Bool} {k : Nat} {news : Led} (F : Fr h₀ L s.heap m) (N : News h₀ L s.heap news) (hh : A.handled = none) (hm : (D, cellsO ys k) ∈ news) (hb : LSm.BoolsAre ys bs)
    (h : ∀ h' tk, Fr h₀ L h' m → News h₀ L h' news → Q (.bool (bs.all id)) { s with heap := h', toks := tk }) : wpAny (model prog w) A (call (.builtin "all") [.ref D]) Q E s := LSm.all_bools F N hh (News.isList N hm) hb h
theorem any_led {Q : Value → Shared → Prop} {D : Addr} {ys : List Value} {bs : List Bool} {k : Nat} {news : Led} (F : Fr h₀ L s.heap m) (N : News h₀ L s.heap news) (hh : A.handled = none) (hm : (D, cellsO ys k) ∈ news) (hb : LSm.BoolsAre ys bs)
    (h : ∀ h' tk, Fr h₀ L h' m → News h₀ L h' news → Q (.bool (bs.any id)) { s with heap := h', toks := tk }) : wpAny (model prog w) A (call (.builtin "any") [.ref D]) Q E s := LSm.any_bools F N hh (News.isList N hm) hb h
end
theorem grow_map (e : List Int) (es : List (List Int)) (xs : List Int) : grow (es.map (e ++ ·)) xs = (grow es xs).map (e ++ ·) := by
  unfold grow
  rw [List.flatMap_map, List.map_flatMap]
  congr 1
  funext e'
  rw [List.map_map]
  congr 1
  funext a
  exact List.append_assoc _ _ _
theorem rowsE_map (S : Int → List Int) (e : List Int) : ∀ (rs : List Int) (es : List (List Int)), rowsE S rs (es.map (e ++ ·)) = (rowsE S rs es).map (e ++ ·)
  | [], _ => rfl
  | r :: rs, es => by
    show rowsE S rs (grow (es.map (e ++ ·)) (S r)) = (rowsE S rs (grow es (S r))).map (e ++ ·)
    rw [grow_map, rowsE_map S e rs]
theorem all_hold {S : Int → List Int} {rs e : List Int} {f : Form} {k : Nat} : ((rowsO S rs e).map fun e' => hold S f e').all id = hold S (.qu true k rs f) e := by
  have h := rowsE_map S e rs [[]]
  rw [List.map_singleton, List.append_nil] at h
  show ((rowsE S rs [e]).map fun e' => hold S f e').all id = (rowsE S rs [[]]).all fun e' => hold S f (e ++ e')
  rw [h, List.map_map, List.all_map]; rfl
theorem any_hold {S : Int → List Int} {rs e : List Int} {f : Form} {k : Nat} : ((rowsO S rs e).map fun e' => hold S f e').any id = hold S (.qu false k rs f) e := by
  have h := rowsE_map S e rs [[]]
  rw [List.map_singleton, List.append_nil] at h
  show ((rowsE S rs [e]).map fun e' => hold S f e').any id = (rowsE S rs [[]]).any fun e' => hold S f (e ++ e')
  rw [h, List.map_map, List.any_map]; rfl
theorem rowsE_le {S : Int → List Int} : ∀ {rs : List Int} {es : List (List Int)} {n : Nat}, (∀ r ∈ rs, (S r).length ≤ 2) → es.length ≤ n → (rowsE S rs es).length ≤ n * 2 ^ rs.length
  | [], _, n, _, h => by rw [List.length_nil, Nat.pow_zero, Nat.mul_one]; exact h
  | r :: rs, es, n, hr, h => by
    have := rowsE_le (rs := rs) (fun x m => hr x (.tail _ m)) (grow_le h (hr r (.head _)))
    rw [List.length_cons, Nat.pow_succ, Nat.mul_comm (2 ^ rs.length) 2, ← Nat.mul_assoc]
    exact this
theorem rowsO_le {S : Int → List Int} {rs e : List Int} (hr : ∀ r ∈ rs, (S r).length ≤ 2) (hl : rs.length ≤ 2) : ((rowsO S rs e).length : Int) ≤ 4 := by
  have h : (rowsO S rs e).length ≤ 1 * 2 ^ rs.length := rowsE_le (n := 1) hr (Nat.le_refl ([e] : List (List Int)).length)
  have : 2 ^ rs.length ≤ 2 ^ 2 := Nat.pow_le_pow_right (by decide) hl
  rw [Nat.one_mul] at h
  exact Int.ofNat_le.mpr (Nat.le_trans h this)
theorem plain_atom : ∀ {f : Form}, plain (.not f) = true → plain f = true
  | .some _, _ | .inn _ _, _ => rfl
end Mine
end

section
open PySem PySem.W PyProof.Rows PySem.Spec PySem.Calls
set_option Elab.async false
set_option maxRecDepth 100000
namespace Mine
theorem take_len {vs : List Value} {ns : List Int} (h : IntsAre vs (ns.take 40)) : vs.length ≤ 40 := by
  have := h.length; rw [this, List.length_take]; lia
theorem lt_all {l : Led} {a b : Addr} (h : ∀ p ∈ l, p.1 < a) (k : @LT.lt Nat _ a b) : ∀ p ∈ l, p.1 < b := fun p hp => Nat.lt_trans (h p hp) k
theorem off1_nil {D : Addr} : LCg.Off1 D [] := trivial
theorem allLt_nil {D : Addr} : AllLt D [] := trivial
noncomputable def setS (xs ys : List Int) : Int → List Int := fun r => if r = 0 then xs else ys
section
variable {prog : Program} {w : World} {A : Around} {E : Value → Shared → Prop} {s : Shared} {h₀ : Heap} {L : Addr} {m : Str → Option Value} {news : Led}
theorem item_any {Q : Value → Shared → Prop} {a : Addr} {vs : List Value} {n : Nat} {x : Int} {u : Tok} {value slice : PySem.Expr} (N : News h₀ L s.heap news) (hm : (a, cellsO vs n) ∈ news) (h0 : 0 ≤ x) (h1 : x < (vs.length : Int)) (hl : vs.length ≤ 100)
    (h : ∀ v ∈ vs, Q v s)
    (he : ∀ a, subscripted slice false (.ref a) (.int x u) = operate [.ref a, .int x u] (getItem (.ref a) (.int x u)) := by intro _; with_unfolding_all rfl) :
    wpAny (model prog w) A (subscriptTail value slice (.ref a) (.int x u)) Q E s := by
  have hl' : s.heap.IsList a vs.toArray := News.isList N hm
  have hx : x.toNat < vs.length := by lia
  exact tail_any hl'.typeIs slot_list_getitem.lookup (wpAny_getItem_list hl' h0 (by lia) (by simp [hx]) (h vs[x.toNat] (List.getElem_mem hx))) (he a)
theorem lists_eq {Q : Value → Shared → Prop} {a b : Addr} {vs ws : List Value} {ns ms : List Int} {k kb : Nat} (N : News h₀ L s.heap news) (ha : (a, cellsO vs k) ∈ news) (hb : (b, cellsO ws kb) ∈ news) (hv : IntsAre vs ns) (hw : IntsAre ws ms) (hu : A.units + 64 < cLine) (h : ∀ b, Q (.bool b) s) :
    wpAny (model prog w) A (compareOp .Eq (.ref a) (.ref b)) Q E s := by
  obtain ⟨as, ra⟩ := ints_reads (h := s.heap) hv
  obtain ⟨bs, rb⟩ := ints_reads (h := s.heap) hw
  exact eq_dataH (reads_list_at (N.get ha) rfl rfl (by simpa using ra)) (reads_list_at (N.get hb) rfl rfl (by simpa using rb)) (ints_shaped ns) (ints_shaped ms) hu (h _)
theorem sets4 {l : Led} {a0 a1 a2 a3 : Addr} {n0 n1 n2 n3 : Nat} {t1 t2 t3 t4 : Tok} (h0 : (a0, cellsO [] n0) ∈ l) (h1 : (a1, cellsO [.int 0 t1] n1) ∈ l) (h2 : (a2, cellsO [.int 1 t2] n2) ∈ l) (h3 : (a3, cellsO [.int 0 t3, .int 1 t4] n3) ∈ l) :
    ∀ v ∈ [Value.ref a0, .ref a1, .ref a2, .ref a3], ∃ xs, SetIn l v xs := by
  intro v hv
  rcases List.mem_cons.mp hv with rfl | hv
  · exact ⟨_, .mk h0 .nil (by decide)⟩
  rcases List.mem_cons.mp hv with rfl | hv
  · exact ⟨_, .mk h1 (.cons _ _ .nil) (by simp)⟩
  rcases List.mem_cons.mp hv with rfl | hv
  · exact ⟨_, .mk h2 (.cons _ _ .nil) (by simp)⟩
  rcases List.mem_cons.mp hv with rfl | hv
  · exact ⟨_, .mk h3 (.cons _ _ (.cons _ _ .nil)) (by simp)⟩
  exact nomatch hv
theorem item_near {Q : Value → Shared → Prop} {a a0 a1 a2 a3 : Addr} {n n0 n1 n2 n3 : Nat} {t1 t2 t3 t4 : Tok} {x : Int} {u : Tok} {value slice : PySem.Expr} (N : News h₀ L s.heap news) (hm : (a, cellsO [.ref a0, .ref a1, .ref a2, .ref a3] n) ∈ news) (h0 : 0 ≤ x) (h1 : x < 4)
    (m0 : (a0, cellsO [] n0) ∈ news) (m1 : (a1, cellsO [.int 0 t1] n1) ∈ news) (m2 : (a2, cellsO [.int 1 t2] n2) ∈ news) (m3 : (a3, cellsO [.int 0 t3, .int 1 t4] n3) ∈ news)
    (h : ∀ b n' vs xs, (b, cellsO vs n') ∈ news → IntsAre vs xs → xs.length ≤ 2 → Q (.ref b) s)
    (he : ∀ a, subscripted slice false (.ref a) (.int x u) = operate [.ref a, .int x u] (getItem (.ref a) (.int x u)) := by intro _; with_unfolding_all rfl) :
    wpAny (model prog w) A (subscriptTail value slice (.ref a) (.int x u)) Q E s :=
  item_any N hm h0 h1 (by simp) (fun v hv => by obtain ⟨xs, hS⟩ := sets4 m0 m1 m2 m3 v hv; cases hS with | mk a b c => exact h _ _ _ _ a b c) he
end
section
variable {prog : Program} {w : World} {A : Around} {E : Value → Shared → Prop} {s : Shared} {h₀ : Heap} {env : Env} {target : PySem.Expr} {body : List Stmt} {Q : Flow → Shared → Prop}
/-- six names laid over a frame -/
noncomputable def ov6 (n1 n2 n3 n4 n5 n6 : Str) (u m₀ : Map) : Map := fun z => if z = n1 then u z else if z = n2 then u z else if z = n3 then u z else if z = n4 then u z else if z = n5 then u z else if z = n6 then u z else m₀ z
inductive PlainNext (base : Led) (n1 n2 n3 n4 n5 n6 : Str) (m₀ : Map) : Map → Led → Prop where
  | mk {u : Map} {tl' : Led} : (∀ q ∈ base, ∀ p ∈ tl', q.1 < p.1) → PlainNext base n1 n2 n3 n4 n5 n6 m₀ (ov6 n1 n2 n3 n4 n5 n6 u m₀) (base ++ tl')
theorem ov6_of {n1 n2 n3 n4 n5 n6 : Str} {m' m₀ : Map} (h : ∀ z, z ≠ n1 → z ≠ n2 → z ≠ n3 → z ≠ n4 → z ≠ n5 → z ≠ n6 → m' z = m₀ z) : m' = (ov6 n1 n2 n3 n4 n5 n6 m' m₀) := by
  funext z
  unfold ov6
  by_cases h1 : z = n1
  · rw [if_pos h1]
  by_cases h2 : z = n2
  · rw [if_neg h1, if_pos h2]
  by_cases h3 : z = n3
  · rw [if_neg h1, if_neg h2, if_pos h3]
  by_cases h4 : z = n4
  · rw [if_neg h1, if_neg h2, if_neg h3, if_pos h4]
  by_cases h5 : z = n5
  · rw [if_neg h1, if_neg h2, if_neg h3, if_neg h4, if_pos h5]
  by_cases h6 : z = n6
  · rw [if_neg h1, if_neg h2, if_neg h3, if_neg h4, if_neg h5, if_pos h6]
  rw [if_neg h1, if_neg h2, if_neg h3, if_neg h4, if_neg h5, if_neg h6]; exact h z h1 h2 h3 h4 h5 h6
theorem plain_turn {h' : Heap} {L I : Addr} {it : Obj} {ent : Addr × Obj} {s₁ : Shared} {tk : Nat} {m₁ m₀ : Map} {n1 n2 n3 n4 n5 n6 : Str} {base tl' all l1 : Led}
    (F : Fr h₀ L h' m₁) (hm : ∀ z, z ≠ n1 → z ≠ n2 → z ≠ n3 → z ≠ n4 → z ≠ n5 → z ≠ n6 → m₁ z = m₀ z) (N : News h₀ L h' all) (hi : (I, it) ∈ all) (c1 : Cut1 I all l1) (en : Ends base l1 tl') (he : ent ∈ base) :
    TurnEnd h₀ L s₁ I it ent (PlainNext base n1 n2 n3 n4 n5 n6 m₀) { s₁ with heap := h', toks := tk } :=
  .mk F (news_at N hi (N.perm fun p hp => c1.sub _ (en.sub _ hp))) (off1_of (fun p hp => off1_mem c1.off p (en.sub _ hp))) (List.mem_append.mpr (.inl he)) (ov6_of hm ▸ .mk en.ord)
/-- what each_loop keeps -/
inductive EachJ (base : Led) (n1 n2 n3 n4 n5 n6 : Str) (m₀ : Map) (vs rest : List Value) : Map → Led → Prop where
  | mk {u : Map} {tl : Led} : (∀ v ∈ rest, v ∈ vs) → (∀ q ∈ base, ∀ p ∈ tl, q.1 < p.1) → EachJ base n1 n2 n3 n4 n5 n6 m₀ vs rest (ov6 n1 n2 n3 n4 n5 n6 u m₀) (base ++ tl)
theorem each_loop {I : Addr} {ent : Addr × Obj} {n1 n2 n3 n4 n5 n6 : Str} {base : Led} {m₀ : Map} {vs : List Value} (hent : ent ∈ base)
    (turn : ∀ bs, bs = base → ent ∈ bs → ∀ v tl (u : Map) it h tk, v ∈ vs → (∀ q ∈ bs, ∀ p ∈ tl, q.1 < p.1) → Fr h₀ env.locals h (ov6 n1 n2 n3 n4 n5 n6 u m₀) → News h₀ env.locals h ((I, it) :: (bs ++ tl)) → LCg.Off1 I (bs ++ tl) →
      wpAny (model prog w) A (assign target env v) (fun _ s₂ => wpAny (model prog w) A (execs body env) (TurnPost h₀ env.locals { s with heap := h, toks := tk } I it ent (PlainNext bs n1 n2 n3 n4 n5 n6 m₀) Q) E s₂) E { s with heap := h, toks := tk })
    (done : ∀ (u : Map) tl h tk, (∀ q ∈ base, ∀ p ∈ tl, q.1 < p.1) → Fr h₀ env.locals h (ov6 n1 n2 n3 n4 n5 n6 u m₀) → News h₀ env.locals h (base ++ tl) → Q .next { s with heap := h, toks := tk }) :
    TurnRest prog w A E h₀ env target body Q s I ent vs m₀ base := by
  refine TurnRest.less (news' := base ++ []) (by rw [List.append_nil]; exact Sub.refl) ?_
  have em : m₀ = (ov6 n1 n2 n3 n4 n5 n6 m₀ m₀) := ov6_of fun _ _ _ _ _ _ _ => rfl
  rw [em]
  refine turn_inv (EachJ base n1 n2 n3 n4 n5 n6 m₀ vs) (fun v r m nl it h tk hJ => ?_) (fun m nl h tk hJ => ?_) _ _ _ (.mk (fun _ h => h) fun _ _ _ h => nomatch h)
  · cases hJ with
    | mk hv ho => exact fun F N off => turn_mono (fun m nl z => by cases z with | mk ho' => exact .mk (fun x hx => hv x (.tail _ hx)) ho') (turn base rfl hent v _ _ it h tk (hv v (.head _)) ho F N off)
  · cases hJ with
    | mk hv ho => exact fun F N => done _ _ h tk ho F N
theorem each_set {I : Addr} {ent : Addr × Obj} {n1 n2 n3 n4 n5 n6 : Str} {base : Led} {m₀ : Map} {vs : List Value} (hent : ent ∈ base) (hset : ∀ v ∈ vs, ∃ xs, SetIn base v xs)
    (turn : ∀ bs, bs = base → ent ∈ bs → ∀ b n vs' xs tl (u : Map) it h tk, (b, cellsO vs' n) ∈ bs → IntsAre vs' xs → xs.length ≤ 2 → (∀ q ∈ bs, ∀ p ∈ tl, q.1 < p.1) → Fr h₀ env.locals h (ov6 n1 n2 n3 n4 n5 n6 u m₀) → News h₀ env.locals h ((I, it) :: (bs ++ tl)) → LCg.Off1 I (bs ++ tl) →
      wpAny (model prog w) A (assign target env (.ref b)) (fun _ s₂ => wpAny (model prog w) A (execs body env) (TurnPost h₀ env.locals { s with heap := h, toks := tk } I it ent (PlainNext bs n1 n2 n3 n4 n5 n6 m₀) Q) E s₂) E { s with heap := h, toks := tk })
    (done : ∀ (u : Map) tl h tk, (∀ q ∈ base, ∀ p ∈ tl, q.1 < p.1) → Fr h₀ env.locals h (ov6 n1 n2 n3 n4 n5 n6 u m₀) → News h₀ env.locals h (base ++ tl) → Q .next { s with heap := h, toks := tk }) :
    TurnRest prog w A E h₀ env target body Q s I ent vs m₀ base :=
  each_loop hent (fun bs hb he v tl u it h tk hv => by
    subst hb
    obtain ⟨xs, hS⟩ := hset v hv
    cases hS with | mk a b c => exact turn _ rfl he _ _ _ _ tl u it h tk a b c) done
end
section
variable {prog : Program} {w : World} {A : Around} {h₀ : Heap} {L : Addr} {m : Str → Option Value} {env : Env}
/-- an element's end: a tuple of (atom,) -/
inductive AtomsEnd (h₀ : Heap) (L : Addr) (m : Map) (s₁ : Shared) (I : Addr) (oI : Obj) (C : Addr) (oC : Obj) (D : Addr) (oD : Obj) (base tl : Led) (zs : List Int) : Value → Shared → Prop where
  | mk {h' : Heap} {tk n : Nat} {tl' : Led} {T : Addr} {ws : List Value} : Fr h₀ L h' m → News h₀ L h' ((I, oI) :: (C, oC) :: (D, oD) :: (base ++ tl')) → Sub tl tl' → (∀ q ∈ base, ∀ p ∈ tl', q.1 < p.1) → LCg.Off3 I C D (base ++ tl') → (T, tupO ws n) ∈ tl' → AtomsIn tl' ws zs →
      AtomsEnd h₀ L m s₁ I oI C oC D oD base tl zs (.ref T) { s₁ with heap := h', toks := tk }
theorem atoms_end {s₁ : Shared} {I C D T : Addr} {oI oC oD : Obj} {base tl tl' all l1 : Led} {zs : List Int} {ws : List Value} {n : Nat} {h' : Heap} {tk : Nat} (F : Fr h₀ L h' m) (N : News h₀ L h' all) (hi : (I, oI) ∈ all) (c : (C, oC) ∈ all) (d : (D, oD) ∈ all)
    (k : Cut I C D all l1) (en : Ends base l1 tl') (hs : Sub tl tl') (hT : (T, tupO ws n) ∈ tl') (hA : AtomsIn tl' ws zs) : AtomsEnd h₀ L m s₁ I oI C oC D oD base tl zs (.ref T) { s₁ with heap := h', toks := tk } :=
  .mk F (news_at N hi (news_at N c (news_at N d (N.perm fun p hp => k.sub _ (en.sub _ hp))))) hs en.ord (LCg.Off3.of (ends_led en fun p hp => k.off.mem p hp)) hT hA
theorem inst_src {elt : PySem.Expr} {x : Str} {scope : Scope} {cl : List (Str × Addr)} {Fin : Shared → List Value → Led → Prop} {ax : Addr} {v0 v1 : Value} {n : Nat} {base : Led} {s₁ : Shared} {xs ys : List Int}
    (hh : A.handled = none) (F : Fr h₀ L s₁.heap m) (N : News h₀ L s₁.heap base) (hm : (ax, tupO [v0, v1] n) ∈ base) (h0 : SetIn base v0 xs) (h1 : SetIn base v1 ys)
    (turn : ∀ bs, bs = base → ∀ v zs tl I oI Cc oC D us m₂ h tk (E' : Value → Shared → Prop), SetIn bs v zs → (∀ q ∈ bs, ∀ p ∈ tl, q.1 < p.1) → LCg.NsObj oC m₂ → m₂ x = some v → Fr h₀ L h m → News h₀ L h ((I, oI) :: (Cc, oC) :: (D, LCg.lst us) :: (bs ++ tl)) → LCg.Off3 I Cc D (bs ++ tl) → ((@Ne Nat I Cc) ∧ (@Ne Nat I D) ∧ (@Ne Nat Cc D)) →
      wpAny (model prog w) A (eval elt (compEnvC scope cl Cc env)) (AtomsEnd h₀ L m { s₁ with heap := h, toks := tk } I oI Cc oC D (LCg.lst us) bs tl zs) E' { s₁ with heap := h, toks := tk })
    (fin : ∀ g s0 s1 n0 n1 w0 w1 tl, (s0, tupO w0 n0) ∈ tl → AtomsIn tl w0 xs → (s1, tupO w1 n1) ∈ tl → AtomsIn tl w1 ys → (∀ q ∈ base, ∀ p ∈ tl, q.1 < p.1) → Fin { s₁ with heap := g } [.ref s0, .ref s1] (base ++ tl)) :
    TupSrc prog w A h₀ L m env elt x scope cl Fin (.ref ax) s₁ := by
  have N0 : News h₀ L s₁.heap (base ++ []) := by rw [List.append_nil]; exact N
  refine TupSrc.ledger (n := n) (its := [v0, v1]) hh F N0 (List.mem_append.mpr (.inl hm)) (show 2 ≤ sizeLine by decide +kernel) fun g => ?_
  refine LCg.CompRest.succ fun v I oI C oC D m₂ h tk E' hv hC hx F' N' off nes => ?_
  refine wpAny_mono (turn base rfl v xs [] I oI C oC D [] m₂ h tk E' (Option.some.inj hv ▸ h0) (fun _ _ _ h => nomatch h) hC hx F' N' off nes) (fun yv s₂ h₂ => ?_) fun _ _ z => z
  cases h₂ with
  | mk F2 N2 hs2 ho2 off2 hT hA =>
    refine comp_end F2 N2 (.head _) (.tail _ (.head _)) (.tail _ (.tail _ (.head _))) (Cut.skipI (Cut.skipC (Cut.skipD (Cut.base off2)))) (List.mem_append.mpr (.inl hm)) ?_
    refine LCg.CompRest.succ fun v I oI C oC D m₂ h tk E' hv hC hx F' N' off nes => ?_
    refine wpAny_mono (turn base rfl v ys _ I oI C oC D _ m₂ h tk E' (Option.some.inj hv ▸ h1) ho2 hC hx F' N' off nes) (fun yv s₂ h₂ => ?_) fun _ _ z => z
    cases h₂ with
    | mk F3 N3 hs3 ho3 off3 hT3 hA3 =>
      refine comp_end F3 N3 (.head _) (.tail _ (.head _)) (.tail _ (.tail _ (.head _))) (Cut.skipI (Cut.skipC (Cut.skipD (Cut.base off3)))) (List.mem_append.mpr (.inl hm)) ?_
      exact LCg.CompRest.zero (fin g _ _ _ _ _ _ _ (hs3 _ hT) (hA.mono hs3) hT3 hA3 ho3)
end
theorem hold_on {p q : Prop} (h : p) (k : p → q) : q := k h
/-- what the law holds in hand: the four sets, one of them, a formula -/
structure LawIn (l : Led) (la : Addr) (vs : List Value) (n : Nat) (nb : Addr) (nvs : List Value) (nn : Nat) (fv : Value) (F : Form) : Prop where
  tab : (la, cellsO vs n) ∈ l
  sets : ∀ v ∈ vs, ∃ xs, SetIn l v xs
  near : (nb, cellsO nvs nn) ∈ l
  form : FIn l fv F
theorem LawIn.mono {l l' : Led} {la nb : Addr} {vs nvs : List Value} {n nn : Nat} {fv : Value} {F : Form} (h : LawIn l la vs n nb nvs nn fv F) (hs : Sub l l') : LawIn l' la vs n nb nvs nn fv F :=
  ⟨hs _ h.tab, fun v hv => let ⟨xs, x⟩ := h.sets v hv; ⟨xs, x.mono hs⟩, hs _ h.near, h.form.mono hs⟩
theorem LawIn.at {l l' : Led} {la nb : Addr} {vs nvs : List Value} {n nn : Nat} {fv : Value} {F : Form} (h : LawIn l la vs n nb nvs nn fv F) (hs : Sub l l') : ∀ v ∈ vs, ∃ xs, SetIn l' v xs := (h.mono hs).sets
theorem law_in {h₀ h : Heap} {L : Addr} {m : Map} {l n1 : Led} {la a0 a1 a2 a3 nb : Addr} {n k0 k1 k2 k3 nn : Nat} {t1 t2 t3 t4 : Tok} {nvs : List Value} {fv : Value} {F : Form} (N : News h₀ L h l) (_ : Fr h₀ L h m) (_ : m (PySem.Str.ofString "atoms") = some (.ref la))
    (tab : (la, cellsO [.ref a0, .ref a1, .ref a2, .ref a3] n) ∈ l) (near : (nb, cellsO nvs nn) ∈ l) (h0 : (a0, cellsO [] k0) ∈ l) (h1 : (a1, cellsO [.int 0 t1] k1) ∈ l) (h2 : (a2, cellsO [.int 1 t2] k2) ∈ l) (h3 : (a3, cellsO [.int 0 t3, .int 1 t4] k3) ∈ l) (x : FIn n1 fv F) (s : Sub n1 l) :
    LawIn l la [.ref a0, .ref a1, .ref a2, .ref a3] n nb nvs nn fv F := ⟨tab, sets4 h0 h1 h2 h3, near, x.mono s⟩
theorem mem_two {v : Value} {a b : Bool} (h : v ∈ [Value.bool a, .bool b]) : ∃ w, v = .bool w := by
  rcases List.mem_cons.mp h with rfl | h
  · exact ⟨_, rfl⟩
  · exact ⟨_, List.mem_singleton.mp h⟩
theorem hold_nf0 {S : Int → List Int} {f : Form} {w : Bool} : hold S (nf f w) [] = (hold S f [] == w) := hold_nf S f w []
theorem nameG_B {M : Model} {A : Around} {E : Value → Shared → Prop} {s : Shared} {env : Env} {K : Frag} {h₀ : Heap} {L : Addr} {m mg mb : Str → Option Value} {p : Program} {loose : List Str} {x : Str} {pos : Pos} {v : Value} {Q : Value → Shared → Prop}
    (F : Fr h₀ L s.heap m) (X : K.In h₀) (T : TopRead p loose mg mb h₀) (e : nsIn K mainGlobals x = some none) (hv : bootBuiltins x = some v) (hn : x ≠ "__name__") (h : Q v s)
    (hg : env.globals = mainGlobals) (hb : env.builtins = builtinsNs) (hk : env.scope.kind = .function) (hx : env.kindOf x = some .globalImplicit) (hd : (x == ("__debug__" : Str)) = false) :
    wpAny M A (eval (.Name x pos) env) Q E s :=
  PySem.Calls.Name_function_global hk hx (PySem.Calls.loadGlobal_builtin (env := env) (by rw [hg]; exact T.g.keeps F.keep) (mg_none_of X T.g e) (by rw [hb]; exact T.b.keeps F.keep) ((T.builtins x hn).trans hv) h) hd
end Mine
end

section
open PySem PySem.W PyProof.Rows
set_option maxRecDepth 100000
set_option maxHeartbeats 0
local macro_rules | `(tactic| walk_at $s:str) => `(tactic| k_extra $s)
local macro_rules | `(tactic| k_mem) => `(tactic| k_extra "my mem")
local macro_rules | `(tactic| k_all) => `(tactic| (with_reducible refine Mine.off1_mem ?_; k_extra "my off1"))
local macro_rules | `(tactic| ktr_enter) => `(tactic| k_extra "my enter")
local macro_rules | `(tactic| k_ne) => `(tactic| k_extra "my kne")
namespace Mine
inductive NRel (news : Led) : List Value → Form × Bool → Prop where
  | mk {v f w} : FIn news v f → NRel news [v, .bool w] (f, w)
noncomputable abbrev normSize (d : Form × Bool) : Nat := d.1.size
noncomputable abbrev normOut (news : Led) (r : Value) (d : Form × Bool) : Prop := FIn news r (nf d.1 d.2)
theorem norm_ok (w : World) (mean : ExcName → Option Value) (mg mb : Str → Option Value) (d : Form × Bool) :
    Pure w mean mg mb 19 NRel normSize normOut d := by
  have hFill : heap = heap ∧ PySem.Challenge.rw_rr0087_01 = PySem.Challenge.rw_rr0087_01 := by
    k_fill
    exact ⟨rfl, rfl⟩
  clear hFill
  revert d
  refine pure_of fun d IH => ?_
  intro dp un gd cn cs a ccd cl outer A₀ base h₀ L m news nr s vs Q E B F X N T hk hs hR hd hu hret
  cases hR
  rename_i v f wanted hF
  obtain ⟨a9, t9, r9, n9, hv9, hm9⟩ := hF.head
  k_with_none
  k_with "my enter" => first
    | (refine' code_def ?k1_en0 ?k2_en0 ?k3_en0 ?k4_en0 ?k5_en0 ?kA_en0 ?kF_en0 ?kK_en0 ?k6_en0 ?k7_en0 ?k8_en0 ?k9_en0 ?kB_en0 ?_ ?c2_en0 ?c3_en0 ?c4_en0 ?c5_en0; (case kA_en0 => exact rfl); (case kF_en0 => exact rfl); (case kK_en0 => first | exact rfl | assumption); (case k1_en0 => k_asm); (case k2_en0 => k_asm); (case k3_en0 => k_asm); (case k4_en0 => k_asm); (case k5_en0 => k_asm); (case k6_en0 => k_is); (case k7_en0 => k_is); (case k8_en0 => ktr_room); (case k9_en0 => exact BindsTo.of_eq rfl); (case c5_en0 => decide); (case kB_en0 => exact locs rfl); (case c2_en0 => exact rfl); (case c3_en0 => exact rfl); (case c4_en0 => exact rfl); k_whole; intro g' L' h' FG' F' N' B' X' T'; (try dsimp only); (try k_fold))
    | (refine' code_defC ?k1_en1 ?k2_en1 ?k3_en1 ?k4_en1 ?k5_en1 ?kA_en1 ?kF_en1 ?kK_en1 ?k6_en1 ?k7_en1 ?k8_en1 ?k9_en1 ?kB_en1 ?kD_en1 ?_ ?c2_en1 ?c3_en1 ?c4_en1; (case kA_en1 => exact rfl); (case kF_en1 => exact rfl); (case kK_en1 => first | exact rfl | assumption); (case k1_en1 => k_asm); (case k2_en1 => k_asm); (case k3_en1 => k_asm); (case k4_en1 => k_asm); (case k5_en1 => k_asm); (case k6_en1 => k_is); (case k7_en1 => k_is); (case k8_en1 => ktr_room); (case k9_en1 => exact BindsTo.of_eq rfl); (case kB_en1 => exact rfl); (case kD_en1 => decide +kernel); (case c2_en1 => exact rfl); (case c3_en1 => exact rfl); (case c4_en1 => exact rfl); k_whole; intro g' L' h' tk' cells' FG' F' N' Y' B' X' T' l1; (try k_lt l1); (first | (refine cells1 Y' N' ?_; clear Y' N' cells'; intro o1' N' d1') | (refine cells2 Y' N' ?_; clear Y' N' cells'; intro o1' o2' N' d1' d2') | (refine cells3 Y' N' ?_; clear Y' N' cells'; intro o1' o2' o3' N' d1' d2' d3') | (refine cells4 Y' N' ?_; clear Y' N' cells'; intro o1' o2' o3' o4' N' d1' d2' d3' d4')); (repeat ((with_reducible rename (Obj.data _ = Data.cell (bindC _ _ _ _)) => hcl1); (first | (have hcl2 : Obj.data _ = Data.cell (some _) := hcl1) | (have hcl2 : Obj.data _ = Data.cell none := hcl1)); clear hcl1)); (try dsimp only); (try k_fold))
  k_with "my mem" => first
    | (with_reducible assumption)
    | (with_reducible exact List.mem_cons_self)
    | ((with_reducible refine mem_head ?_); exact rfl)
    | ((with_reducible refine List.mem_cons_of_mem _ ?_); k_extra "my mem")
    | ((with_reducible apply Sub.mem); (with_reducible assumption); (with_reducible assumption))
    | ((with_reducible refine List.mem_append.mpr (Or.inl ?_)); k_extra "my mem")
    | ((with_reducible refine List.mem_append.mpr (Or.inr ?_)); k_extra "my mem")
  k_with "my clean" => (repeat ((with_reducible rename (@Ne Nat _ _) => hNe); clear hNe))
  k_with "my split" => (repeat ((with_reducible rename (_ ∧ _) => hAnd); first | ((with_reducible refine (fun hAnd1 hAnd2 hAnd3 hAnd4 hAnd5 hAnd6 hAnd7 hAnd8 hAnd9 hAnd10 hAnd11 hAndR => ?_) (hAnd.1) (hAnd.2.1) (hAnd.2.2.1) (hAnd.2.2.2.1) (hAnd.2.2.2.2.1) (hAnd.2.2.2.2.2.1) (hAnd.2.2.2.2.2.2.1) (hAnd.2.2.2.2.2.2.2.1) (hAnd.2.2.2.2.2.2.2.2.1) (hAnd.2.2.2.2.2.2.2.2.2.1) (hAnd.2.2.2.2.2.2.2.2.2.2.1) (hAnd.2.2.2.2.2.2.2.2.2.2.2)); clear hAnd) | ((with_reducible refine (fun hAnd1 hAnd2 hAnd3 hAnd4 hAnd5 hAnd6 hAnd7 hAndR => ?_) (hAnd.1) (hAnd.2.1) (hAnd.2.2.1) (hAnd.2.2.2.1) (hAnd.2.2.2.2.1) (hAnd.2.2.2.2.2.1) (hAnd.2.2.2.2.2.2.1) (hAnd.2.2.2.2.2.2.2)); clear hAnd) | ((with_reducible refine (fun hAnd1 hAnd2 hAnd3 hAnd4 hAndR => ?_) (hAnd.1) (hAnd.2.1) (hAnd.2.2.1) (hAnd.2.2.2.1) (hAnd.2.2.2.2)); clear hAnd) | ((with_reducible refine (fun hAnd1 hAnd2 hAndR => ?_) (hAnd.1) (hAnd.2.1) (hAnd.2.2)); clear hAnd) | (have hAnd1 := And.left hAnd; have hAnd2 := And.right hAnd; clear hAnd)))
  k_with "my sub" => first
    | (with_reducible exact Sub.refl)
    | (with_reducible assumption)
    | (with_reducible exact Sub.nil)
    | (with_reducible refine Sub.app ?_ ?_ <;> k_extra "my sub")
    | ((with_reducible refine Sub.one ?_ ?_); k_extra "my mem"; k_extra "my sub")
    | ((with_reducible refine Sub.cons ?_); k_extra "my sub")
    | ((with_reducible refine Sub.left ?_); k_extra "my sub")
    | ((with_reducible refine Sub.right ?_); k_extra "my sub")
  k_with "my lt" => first
    | (with_reducible assumption)
    | ((with_reducible refine allLt_of ?_); with_reducible assumption)
    | ((with_reducible apply allLt_app); with_reducible assumption)
    | ((with_reducible apply allLt_app); with_reducible apply allLt_app; with_reducible assumption)
    | ((with_reducible apply allLt_app); with_reducible apply allLt_app; with_reducible apply allLt_app; with_reducible assumption)
    | ((with_reducible apply allLt_app); with_reducible apply allLt_app; with_reducible apply allLt_app; with_reducible apply allLt_app; with_reducible assumption)
    | ((with_reducible apply allLt_app); with_reducible apply allLt_app; with_reducible apply allLt_app; with_reducible apply allLt_app; with_reducible apply allLt_app; with_reducible assumption)
    | ((with_reducible apply allLt_app); with_reducible apply allLt_app; with_reducible apply allLt_app; with_reducible apply allLt_app; with_reducible apply allLt_app; with_reducible apply allLt_app; with_reducible assumption)
    | ((with_reducible apply allLt_app); with_reducible apply allLt_app; with_reducible apply allLt_app; with_reducible apply allLt_app; with_reducible apply allLt_app; with_reducible apply allLt_app; with_reducible apply allLt_app; with_reducible assumption)
  k_with "my ends" => first
    | (with_reducible exact Ends.base)
    | ((with_reducible apply Ends.app); with_reducible assumption)
    | ((with_reducible apply Ends.appR); (focus k_extra "my ends"); with_reducible assumption)
    | ((with_reducible apply Ends.cons); (focus k_extra "my lt"); k_extra "my ends")
    | ((with_reducible apply Ends.skip); k_extra "my ends")
  k_with "my ne" => first
    | (with_reducible assumption)
    | ((with_reducible refine Nat.ne_of_gt ?_); with_reducible assumption)
    | ((with_reducible refine Nat.ne_of_lt ?_); with_reducible assumption)
    | ((with_reducible refine Ne.symm ?_); with_reducible assumption)
    | ((with_reducible refine ne_up1 ?_); with_reducible assumption)
    | ((with_reducible refine ne_up2 ?_); with_reducible assumption)
    | ((with_reducible refine ne_up3 ?_); with_reducible assumption)
  k_with "my kne" => ((refine neN ?_); (try dsimp only); first
    | (k_extra "my ne")
    | exact Nat.ne_of_lt (Nat.lt_succ_self _)
    | exact Nat.ne_of_gt (Nat.lt_succ_self _)
    | exact Nat.ne_of_lt (Nat.lt_succ_of_lt (Nat.lt_succ_self _))
    | exact Nat.ne_of_gt (Nat.lt_succ_of_lt (Nat.lt_succ_self _))
    | ((refine Nat.ne_of_gt (Nat.lt_of_succ_lt ?_)); with_reducible assumption)
    | ((refine Nat.ne_of_gt (Nat.lt_of_succ_lt (Nat.lt_of_succ_lt ?_))); with_reducible assumption))
  k_with "my off" => first
    | (with_reducible assumption)
    | (with_reducible refine off3_lt ?_ ?_ ?_ <;> with_reducible assumption)
    | (with_reducible refine off3_app ?_ ?_ <;> k_extra "my off")
  k_with "my cut" => first
    | ((with_reducible apply Cut.skipI); k_extra "my cut")
    | ((with_reducible apply Cut.skipC); k_extra "my cut")
    | ((with_reducible apply Cut.skipD); k_extra "my cut")
    | ((with_reducible apply Cut.cons); (focus k_extra "my ne"); (focus k_extra "my ne"); (focus k_extra "my ne"); k_extra "my cut")
    | ((with_reducible apply Cut.base); k_extra "my off")
    | ((with_reducible apply Cut.skip); k_extra "my cut")
  k_with "my off1" => first
    | (with_reducible assumption)
    | ((with_reducible refine off1_lt ?_); with_reducible assumption)
    | (with_reducible refine off1_app ?_ ?_ <;> k_extra "my off1")
  k_with "my rel" => first
    | (with_reducible assumption)
    | ((with_reducible apply FIn.mono); (with_reducible assumption); k_extra "my sub")
    | ((with_reducible apply RelIn.mono); (with_reducible assumption); k_extra "my sub")
    | ((with_reducible apply VarIn.mono); (with_reducible assumption); k_extra "my sub")
    | ((with_reducible apply DecsIn.mono); (with_reducible assumption); k_extra "my sub")
    | ((with_reducible apply RelIn.mk); (focus k_extra "my mem"); (refine And.intro ?_ ?_ <;> with_reducible assumption))
    | ((with_reducible apply VarIn.mk); k_extra "my mem")
    | (with_reducible exact DecsIn.nil)
    | ((with_reducible apply DecsIn.cons); (focus ((with_reducible apply DecIn.at); (focus k_extra "my mem"); (focus (k_extra "my clean"; omega)); k_extra "my rel")); k_extra "my rel")
  k_with "my less" => first
    | exact Nat.lt_succ_self _
    | exact Nat.lt_succ_of_le (Nat.le_max_left _ _)
    | exact Nat.lt_succ_of_le (Nat.le_max_right _ _)
  k_with "my fin" => first
    | (k_extra "my rel")
    | ((with_reducible apply FIn.tf); k_extra "my mem")
    | ((with_reducible apply FIn.not); (focus k_extra "my mem"); k_extra "my fin")
    | ((with_reducible apply FIn.con0); (focus k_extra "my mem"); k_extra "my mem")
    | ((with_reducible apply FIn.con1); (focus k_extra "my mem"); (focus k_extra "my mem"); k_extra "my fin")
    | ((with_reducible apply FIn.con2); (focus k_extra "my mem"); (focus k_extra "my mem"); (focus k_extra "my fin"); k_extra "my fin")
    | ((with_reducible apply FIn.imp); (focus k_extra "my mem"); (focus k_extra "my fin"); k_extra "my fin")
    | ((with_reducible apply FIn.iff); (focus k_extra "my mem"); (focus k_extra "my fin"); k_extra "my fin")
    | ((with_reducible apply FIn.qu); (focus k_extra "my mem"); (focus k_extra "my mem"); (focus k_extra "my rel"); k_extra "my fin")
    | ((with_reducible apply FIn.some); (focus k_extra "my mem"); k_extra "my rel")
    | ((with_reducible apply FIn.inn); (focus k_extra "my mem"); (focus k_extra "my rel"); k_extra "my rel")
  k_with "my skip" => first
    | ((with_reducible apply skip_cons); (focus k_extra "my tst"); k_extra "my skip")
    | (with_reducible exact skip_nil)
  k_with "my walk" => (repeat' ((fail_if_success (with_reducible show LeaveK h₀ _ _ _ _ _ _)); first | ((fail_if_success (fail_if_success (with_reducible show wpAny _ _ (eval _ (compEnvC _ _ _ _)) (LCg.CompEnd _ _ _ _ _ _ _ _ _ _ _ _) _ _))); k_fold) | (k_unfold; (try dsimp only)) | walk1 | (dsimp only; walk1)))
  k_with "my steps" => (repeat' (first | ((fail_if_success (fail_if_success (with_reducible show wpAny _ _ (eval _ (compEnvC _ _ _ _)) (LCg.CompEnd _ _ _ _ _ _ _ _ _ _ _ _) _ _))); k_fold) | (k_unfold; (try dsimp only)) | walk1 | (dsimp only; walk1)))
  k_with "my bool" => first
    | ((with_reducible apply sel_one); (focus kernel_rfl!); kernel_rfl!)
    | ((with_reducible apply sel_two); (focus kernel_rfl!); kernel_rfl!)
    | ((with_reducible apply sel_no); (focus kernel_rfl!); kernel_rfl!)
    | ((with_reducible apply sel_in); (focus kernel_rfl!); kernel_rfl!)
    | kernel_rfl!
    | exact rfl
  k_with "my val" => first
    | ((with_reducible show Val _ _ _ _ _ _ _ _ (PySem.Expr.Name _ _) _); first
      | ((with_reducible apply val_local); (focus exact rfl); (focus exact rfl); (focus exact rfl); (focus exact rfl); decide)
      | ((with_reducible apply val_cell); (focus exact rfl); (focus exact rfl); (focus k_extra "my mem"); (focus k_asm); (focus exact rfl); (focus exact rfl); decide))
    | ((with_reducible show Val _ _ _ _ _ _ _ _ (PySem.Expr.Subscript _ _ _) _); (with_reducible apply val_item); (focus k_extra "my val"); (focus k_extra "my mem"); (focus (refine And.intro ?_ ?_; decide; exact rfl)); exact rfl)
    | ((with_reducible show Val _ _ _ _ _ _ _ _ (PySem.Expr.Subscript _ (PySem.Expr.Constant (PySem.Const.int 0) _ _) _) _); (with_reducible apply val_head); (focus k_extra "my val"); (focus with_reducible assumption); k_extra "my mem")
    | ((with_reducible show Val _ _ _ _ _ _ _ _ (PySem.Expr.Compare _ [PySem.CmpOp.Eq] _ _) _); (with_reducible apply val_eq); (focus k_extra "my val"); k_extra "my bool")
    | ((with_reducible show ValH _ _ _ _ _ _ _ _ (PySem.Expr.Compare _ [PySem.CmpOp.In] _ _) _); (with_reducible apply val_in); (focus k_extra "my val"); (focus exact rfl); (focus exact Nat.le_of_ble_eq_true rfl); k_extra "my bool")
  k_with "my tst" => first
    | ((with_reducible show Tst _ _ _ _ _ _ _ _ (PySem.Expr.Compare _ [PySem.CmpOp.In] _ _) _); (with_reducible apply tst_in); (focus k_extra "my val"); (focus exact rfl); (focus exact Nat.le_of_ble_eq_true rfl); k_extra "my bool")
    | ((with_reducible show Tst _ _ _ _ _ _ _ _ (PySem.Expr.Compare _ [PySem.CmpOp.Eq] [PySem.Expr.Constant _ _ _] _) _); (with_reducible apply tst_eq); (focus k_extra "my val"); k_extra "my bool")
    | ((with_reducible show Tst _ _ _ _ _ _ _ _ (PySem.Expr.Compare _ [PySem.CmpOp.NotEq] [PySem.Expr.Constant _ _ _] _) _); first
      | ((with_reducible apply tst_ne_f); (focus k_extra "my val"); k_extra "my bool")
      | ((with_reducible apply tst_ne_t); (focus k_extra "my val"); k_extra "my bool"))
    | ((with_reducible show Tst _ _ _ _ _ _ _ _ (PySem.Expr.Compare _ [PySem.CmpOp.Eq] [PySem.Expr.Name _ _] _) _); (with_reducible apply tst_eqb); (focus k_extra "my val"); (focus k_extra "my val"); exact rfl)
    | ((with_reducible show Tst _ _ _ _ _ _ _ _ (PySem.Expr.BoolOp _ _ _) _); first
      | ((with_reducible apply tst_or_no); (focus k_extra "my tst"); k_extra "my tst")
      | ((with_reducible apply tst_or_yes); k_extra "my tst"))
    | ((with_reducible show Tst _ _ _ _ _ _ _ _ (PySem.Expr.Name _ _) _); (with_reducible apply tst_val); (focus k_extra "my val"); intro _; rfl)
  k_with "execs cons If" => (k_here; k_dflt ((rename Fr _ _ _ _ => kF); (rename News _ _ _ _ => kN); first
    | (apply skip_use kF kN; (focus ((with_reducible apply skip_cons); (focus k_extra "my tst"); k_extra "my skip")); intro h' tk' F' N'; k_sweep)
    | ((with_reducible show wpAny _ _ (execs (PySem.Stmt.If _ [PySem.Stmt.Return (some _) _] _ _ :: _) _) _ _ _); refine s_yes kF kN ?_ ?_; (focus k_extra "my tst"); intro h' tk' F' N'; k_sweep)
    | (refine s_yes2 kF kN ?_ ?_; (focus k_extra "my tst"); intro h' tk' F' N'; k_sweep)))
  k_with "execs cons Return" => (k_here; with_reducible refine s_ret ?_)
  k_with "execs cons Assign" => (k_here; (with_reducible show wpAny _ _ (execs (PySem.Stmt.Assign [PySem.Expr.Name _ _] (PySem.Expr.Subscript _ (PySem.Expr.Constant _ _ _) _) _ :: _) _) _ _ _); k_dflt ((with_reducible apply s_let); (focus exact rfl); (focus k_asm); (focus k_asm); (focus k_extra "my val"); (focus exact rfl); (focus exact rfl); (focus exact rfl); intro h' tk' F' N'; k_sweep))
  k_with "ite" => first
    | (k_dflt (refine ite_pos ?_ ?_; (focus decide)))
    | (k_dflt (refine ite_neg ?_ ?_; (focus decide)))
    | (with_reducible refine ite_dec ?_ ?_ <;> intro _)
  k_with "eval Subscript" => (k_here; (with_reducible show wpAny _ _ (eval (PySem.Expr.Subscript _ (PySem.Expr.Constant _ _ _) _) _) _ _ _); k_dflt ((rename Fr _ _ _ _ => kF); (rename News _ _ _ _ => kN); apply e_val kF kN; (focus k_extra "my val"); intro tk'))
  k_with "eval Compare" => (k_here; k_dflt ((rename Fr _ _ _ _ => kF); (rename News _ _ _ _ => kN); first
    | ((with_reducible show wpAny _ _ (eval (PySem.Expr.Compare _ [PySem.CmpOp.In] _ _) _) _ _ _); apply e_valH kF kN; (focus k_extra "my val"); intro h' tk' F' N'; k_sweep)
    | (apply e_val kF kN; (focus k_extra "my val"); intro tk')))
  k_with "eval IfExp" => (k_here; k_dflt ((rename Fr _ _ _ _ => kF); (rename News _ _ _ _ => kN); first
    | ((with_reducible show wpAny _ _ (eval (PySem.Expr.IfExp _ (PySem.Expr.Constant (PySem.Const.str _) _ _) (PySem.Expr.Constant (PySem.Const.str _) _ _) _) _) _ _ _); apply e_sel kF kN; (focus k_extra "my tst"); intro h' tk' t' F' N'; k_sweep)
    | (refine e_no kF kN ?_ ?_; (focus k_extra "my tst"); intro h' tk' F' N'; k_sweep)
    | (refine e_yes kF kN ?_ ?_; (focus k_extra "my tst"); intro h' tk' F' N'; k_sweep)
    | (refine' e_if kF kN ?_ ?_ ?_; rotate_left; (focus k_extra "my tst"); (intro hc h' tk' F' N'; k_sweep); rotate_left; (intro hc h' tk' F' N'; k_sweep))))
  k_with "my val" => first
    | ((with_reducible show Val _ _ _ _ _ _ _ (compEnvC _ _ _ _) (PySem.Expr.Name _ _) _); first
      | ((with_reducible apply val_own); (focus k_extra "my mem"); (focus with_reducible assumption); (focus with_reducible assumption); (focus exact rfl); (focus exact rfl); decide)
      | ((with_reducible apply val_free); (focus exact rfl); (focus k_extra "my mem"); (focus k_asm); (focus exact rfl); (focus exact rfl); decide))
    | ((with_reducible show Val _ _ _ _ _ _ _ _ (PySem.Expr.UnaryOp _ _ _) _); (with_reducible apply val_not); k_extra "my val")
    | (with_reducible exact val_bool)
  k_with "my fn" => first
    | ((with_reducible show Val _ _ _ _ _ _ _ (compEnvC _ _ _ _) _ _); (with_reducible apply val_globC); (focus k_asm); (focus k_asm); (focus k_is); (focus exact rfl); (focus exact rfl); (focus exact rfl); decide)
    | ((with_reducible apply val_glob); (focus exact rfl); (focus k_asm); (focus k_asm); (focus k_is); (focus exact rfl); (focus exact rfl); decide)
  k_with "my arg" => first
    | (with_reducible exact arg_int)
    | (with_reducible exact arg_str)
    | ((with_reducible show Arg _ _ _ _ _ _ _ _ (PySem.Expr.BinOp _ _ _ _) _); (with_reducible apply arg_sub); k_extra "my val")
    | ((with_reducible apply arg_val); k_extra "my val")
  k_with "eval Call" => (k_here; k_dflt ((rename Fr _ _ _ _ => kF); (rename News _ _ _ _ => kN); first
    | ((with_reducible show wpAny _ _ (eval (PySem.Expr.Call (PySem.Expr.Name _ _) [_] [] _) _) _ _ _); apply e_call1 kF kN; (focus k_asm); (focus k_extra "my fn"); (focus k_is); (focus k_extra "my arg"); (focus exact rfl); (focus exact rfl); intro tk' t')
    | ((with_reducible show wpAny _ _ (eval (PySem.Expr.Call (PySem.Expr.Name _ _) [_, _] [] _) _) _ _ _); apply e_call2 kF kN; (focus k_asm); (focus k_extra "my fn"); (focus k_is); (focus k_extra "my arg"); (focus k_extra "my arg"); (focus exact rfl); (focus exact rfl); (focus exact rfl); (focus exact rfl); intro tk' t' u')
    | ((with_reducible show wpAny _ _ (eval (PySem.Expr.Call (PySem.Expr.Name _ _) [_, _, _] [] _) _) _ _ _); apply e_call3 kF kN; (focus k_asm); (focus k_extra "my fn"); (focus k_is); (focus k_extra "my arg"); (focus k_extra "my arg"); (focus k_extra "my arg"); (focus exact rfl); (focus exact rfl); (focus exact rfl); (focus exact rfl); (focus exact rfl); intro tk' t' u' v')))
  k_with "CompEnd" => (k_extra "my split"; k_dflt ((with_reducible apply comp_end); (focus k_asm); (focus k_asm); (focus k_extra "my mem"); (focus k_extra "my mem"); (focus k_extra "my mem"); (focus k_extra "my cut"); (focus (first | exact trivial | ((with_reducible apply src_at); k_extra "my mem") | k_extra "my mem"))))
  k_with "TupSrc" => (k_here; k_dflt ((with_reducible apply TupSrc.ledger); (focus exact rfl); (focus k_asm); (focus k_asm); (focus k_extra "my mem"); (focus (first | exact Nat.le_of_ble_eq_true rfl | size_fits)); intro g'; lcg_lit))
  k_with "subscriptTail" => (k_here; (with_reducible show wpAny _ _ (subscriptTail _ _ (Value.ref _) (Value.int _ _)) _ _ _); k_dflt ((with_reducible apply item_tupleT); (focus ((with_reducible apply News.isTup); (focus k_asm); k_extra "my mem")); (focus decide); (focus decide); (focus exact rfl); (focus exact rfl); k_whole))
  k_with "call ref" => (k_dflt (apply use_P; (focus k_asm); (focus k_asm); (focus k_asm); (focus k_asm); (focus k_asm); (focus (first | exact rfl | assumption)); (focus (apply NRel.mk; with_reducible assumption)); (focus (apply IH; k_extra "my less")); (focus k_extra "my sub"); (focus (apply room1 (size := normSize); (focus with_reducible assumption); k_extra "my less")); (focus (apply units1 (size := normSize); (focus with_reducible assumption); k_extra "my less")); intro r9 tl9 h9 tk9 F9 N9 hl9 ho9; (try simp only [List.forall_mem_cons, List.forall_mem_append] at hl9); (try simp only [List.nil_append, List.cons_append] at N9); (simp only [normOut] at ho9); (try dsimp only); (try k_fold)))
  k_with "eval ListComp" => (k_here; k_dflt (apply lc_tuple; (focus k_asm); (focus with_unfolding_all rfl); (focus decide); (focus rfl); (focus decide); (focus rfl)))
  refine wpAny_call ?_
  k_dflt ktr_enter
  walk1
  clear hv9 hm9
  cases hF
  all_goals (
    k_extra "my walk"
    all_goals (
      k_extra "my split"
      k_dflt (apply leave_P (Out := normOut); (focus exact hret); (focus k_asm); (focus k_asm); (focus k_extra "my ends"))
      all_goals (simp only [normOut, nf])
      first
        | (k_extra "my fin")
        | (rw [hc]; (simp only [lit, cond_true, cond_false]); k_extra "my fin")
        | (rw [hc]; k_extra "my fin")
        | (rw [← sel_not]; k_extra "my fin")))
end Mine
namespace Mine
inductive MRel (news : Led) : List Value → Form → Prop where
  | mk {v f} : FIn news v f → MRel news [v] f
noncomputable abbrev manySize (d : Form) : Nat := d.size
noncomputable abbrev manyOut (_ : Led) (r : Value) (d : Form) : Prop := ∃ t, r = .int (many d) t
theorem many_ok (w : World) (mean : ExcName → Option Value) (mg mb : Str → Option Value) (d : Form) :
    Pure w mean mg mb 250 MRel manySize manyOut d := by
  have hFill : heap = heap ∧ PySem.Challenge.rw_rr0087_01 = PySem.Challenge.rw_rr0087_01 := by
    k_fill
    exact ⟨rfl, rfl⟩
  clear hFill
  revert d
  refine pure_of fun d IH => ?_
  intro dp un gd cn cs a ccd cl outer A₀ base h₀ L m news nr s vs Q E B F X N T hk hs hR hd hu hret
  cases hR
  rename_i v hF
  k_with_none
  k_with "my enter" => first
    | (refine' code_def ?k1_en0 ?k2_en0 ?k3_en0 ?k4_en0 ?k5_en0 ?kA_en0 ?kF_en0 ?kK_en0 ?k6_en0 ?k7_en0 ?k8_en0 ?k9_en0 ?kB_en0 ?_ ?c2_en0 ?c3_en0 ?c4_en0 ?c5_en0; (case kA_en0 => exact rfl); (case kF_en0 => exact rfl); (case kK_en0 => first | exact rfl | assumption); (case k1_en0 => k_asm); (case k2_en0 => k_asm); (case k3_en0 => k_asm); (case k4_en0 => k_asm); (case k5_en0 => k_asm); (case k6_en0 => k_is); (case k7_en0 => k_is); (case k8_en0 => ktr_room); (case k9_en0 => exact BindsTo.of_eq rfl); (case c5_en0 => decide); (case kB_en0 => exact locs rfl); (case c2_en0 => exact rfl); (case c3_en0 => exact rfl); (case c4_en0 => exact rfl); k_whole; intro g' L' h' FG' F' N' B' X' T'; (try dsimp only); (try k_fold))
    | (refine' code_defC ?k1_en1 ?k2_en1 ?k3_en1 ?k4_en1 ?k5_en1 ?kA_en1 ?kF_en1 ?kK_en1 ?k6_en1 ?k7_en1 ?k8_en1 ?k9_en1 ?kB_en1 ?kD_en1 ?_ ?c2_en1 ?c3_en1 ?c4_en1; (case kA_en1 => exact rfl); (case kF_en1 => exact rfl); (case kK_en1 => first | exact rfl | assumption); (case k1_en1 => k_asm); (case k2_en1 => k_asm); (case k3_en1 => k_asm); (case k4_en1 => k_asm); (case k5_en1 => k_asm); (case k6_en1 => k_is); (case k7_en1 => k_is); (case k8_en1 => ktr_room); (case k9_en1 => exact BindsTo.of_eq rfl); (case kB_en1 => exact rfl); (case kD_en1 => decide +kernel); (case c2_en1 => exact rfl); (case c3_en1 => exact rfl); (case c4_en1 => exact rfl); k_whole; intro g' L' h' tk' cells' FG' F' N' Y' B' X' T' l1; (try k_lt l1); (first | (refine cells1 Y' N' ?_; clear Y' N' cells'; intro o1' N' d1') | (refine cells2 Y' N' ?_; clear Y' N' cells'; intro o1' o2' N' d1' d2') | (refine cells3 Y' N' ?_; clear Y' N' cells'; intro o1' o2' o3' N' d1' d2' d3') | (refine cells4 Y' N' ?_; clear Y' N' cells'; intro o1' o2' o3' o4' N' d1' d2' d3' d4')); (repeat ((with_reducible rename (Obj.data _ = Data.cell (bindC _ _ _ _)) => hcl1); (first | (have hcl2 : Obj.data _ = Data.cell (some _) := hcl1) | (have hcl2 : Obj.data _ = Data.cell none := hcl1)); clear hcl1)); (try dsimp only); (try k_fold))
  k_with "my mem" => first
    | (with_reducible assumption)
    | (with_reducible exact List.mem_cons_self)
    | ((with_reducible refine mem_head ?_); exact rfl)
    | ((with_reducible refine List.mem_cons_of_mem _ ?_); k_extra "my mem")
    | ((with_reducible apply Sub.mem); (with_reducible assumption); (with_reducible assumption))
    | ((with_reducible refine List.mem_append.mpr (Or.inl ?_)); k_extra "my mem")
    | ((with_reducible refine List.mem_append.mpr (Or.inr ?_)); k_extra "my mem")
  k_with "my clean" => (repeat ((with_reducible rename (@Ne Nat _ _) => hNe); clear hNe))
  k_with "my split" => (repeat ((with_reducible rename (_ ∧ _) => hAnd); first | ((with_reducible refine (fun hAnd1 hAnd2 hAnd3 hAnd4 hAnd5 hAnd6 hAnd7 hAnd8 hAnd9 hAnd10 hAnd11 hAndR => ?_) (hAnd.1) (hAnd.2.1) (hAnd.2.2.1) (hAnd.2.2.2.1) (hAnd.2.2.2.2.1) (hAnd.2.2.2.2.2.1) (hAnd.2.2.2.2.2.2.1) (hAnd.2.2.2.2.2.2.2.1) (hAnd.2.2.2.2.2.2.2.2.1) (hAnd.2.2.2.2.2.2.2.2.2.1) (hAnd.2.2.2.2.2.2.2.2.2.2.1) (hAnd.2.2.2.2.2.2.2.2.2.2.2)); clear hAnd) | ((with_reducible refine (fun hAnd1 hAnd2 hAnd3 hAnd4 hAnd5 hAnd6 hAnd7 hAndR => ?_) (hAnd.1) (hAnd.2.1) (hAnd.2.2.1) (hAnd.2.2.2.1) (hAnd.2.2.2.2.1) (hAnd.2.2.2.2.2.1) (hAnd.2.2.2.2.2.2.1) (hAnd.2.2.2.2.2.2.2)); clear hAnd) | ((with_reducible refine (fun hAnd1 hAnd2 hAnd3 hAnd4 hAndR => ?_) (hAnd.1) (hAnd.2.1) (hAnd.2.2.1) (hAnd.2.2.2.1) (hAnd.2.2.2.2)); clear hAnd) | ((with_reducible refine (fun hAnd1 hAnd2 hAndR => ?_) (hAnd.1) (hAnd.2.1) (hAnd.2.2)); clear hAnd) | (have hAnd1 := And.left hAnd; have hAnd2 := And.right hAnd; clear hAnd)))
  k_with "my sub" => first
    | (with_reducible exact Sub.refl)
    | (with_reducible assumption)
    | (with_reducible exact Sub.nil)
    | (with_reducible refine Sub.app ?_ ?_ <;> k_extra "my sub")
    | ((with_reducible refine Sub.one ?_ ?_); k_extra "my mem"; k_extra "my sub")
    | ((with_reducible refine Sub.cons ?_); k_extra "my sub")
    | ((with_reducible refine Sub.left ?_); k_extra "my sub")
    | ((with_reducible refine Sub.right ?_); k_extra "my sub")
  k_with "my lt" => first
    | (with_reducible assumption)
    | ((with_reducible refine allLt_of ?_); with_reducible assumption)
    | ((with_reducible apply allLt_app); with_reducible assumption)
    | ((with_reducible apply allLt_app); with_reducible apply allLt_app; with_reducible assumption)
    | ((with_reducible apply allLt_app); with_reducible apply allLt_app; with_reducible apply allLt_app; with_reducible assumption)
    | ((with_reducible apply allLt_app); with_reducible apply allLt_app; with_reducible apply allLt_app; with_reducible apply allLt_app; with_reducible assumption)
    | ((with_reducible apply allLt_app); with_reducible apply allLt_app; with_reducible apply allLt_app; with_reducible apply allLt_app; with_reducible apply allLt_app; with_reducible assumption)
    | ((with_reducible apply allLt_app); with_reducible apply allLt_app; with_reducible apply allLt_app; with_reducible apply allLt_app; with_reducible apply allLt_app; with_reducible apply allLt_app; with_reducible assumption)
    | ((with_reducible apply allLt_app); with_reducible apply allLt_app; with_reducible apply allLt_app; with_reducible apply allLt_app; with_reducible apply allLt_app; with_reducible apply allLt_app; with_reducible apply allLt_app; with_reducible assumption)
  k_with "my ends" => first
    | (with_reducible exact Ends.base)
    | ((with_reducible apply Ends.app); with_reducible assumption)
    | ((with_reducible apply Ends.appR); (focus k_extra "my ends"); with_reducible assumption)
    | ((with_reducible apply Ends.cons); (focus k_extra "my lt"); k_extra "my ends")
    | ((with_reducible apply Ends.skip); k_extra "my ends")
  k_with "my ne" => first
    | (with_reducible assumption)
    | ((with_reducible refine Nat.ne_of_gt ?_); with_reducible assumption)
    | ((with_reducible refine Nat.ne_of_lt ?_); with_reducible assumption)
    | ((with_reducible refine Ne.symm ?_); with_reducible assumption)
    | ((with_reducible refine ne_up1 ?_); with_reducible assumption)
    | ((with_reducible refine ne_up2 ?_); with_reducible assumption)
    | ((with_reducible refine ne_up3 ?_); with_reducible assumption)
  k_with "my kne" => ((refine neN ?_); (try dsimp only); first
    | (k_extra "my ne")
    | exact Nat.ne_of_lt (Nat.lt_succ_self _)
    | exact Nat.ne_of_gt (Nat.lt_succ_self _)
    | exact Nat.ne_of_lt (Nat.lt_succ_of_lt (Nat.lt_succ_self _))
    | exact Nat.ne_of_gt (Nat.lt_succ_of_lt (Nat.lt_succ_self _))
    | ((refine Nat.ne_of_gt (Nat.lt_of_succ_lt ?_)); with_reducible assumption)
    | ((refine Nat.ne_of_gt (Nat.lt_of_succ_lt (Nat.lt_of_succ_lt ?_))); with_reducible assumption))
  k_with "my off" => first
    | (with_reducible assumption)
    | (with_reducible refine off3_lt ?_ ?_ ?_ <;> with_reducible assumption)
    | (with_reducible refine off3_app ?_ ?_ <;> k_extra "my off")
  k_with "my cut" => first
    | ((with_reducible apply Cut.skipI); k_extra "my cut")
    | ((with_reducible apply Cut.skipC); k_extra "my cut")
    | ((with_reducible apply Cut.skipD); k_extra "my cut")
    | ((with_reducible apply Cut.cons); (focus k_extra "my ne"); (focus k_extra "my ne"); (focus k_extra "my ne"); k_extra "my cut")
    | ((with_reducible apply Cut.base); k_extra "my off")
    | ((with_reducible apply Cut.skip); k_extra "my cut")
  k_with "my off1" => first
    | (with_reducible assumption)
    | ((with_reducible refine off1_lt ?_); with_reducible assumption)
    | (with_reducible refine off1_app ?_ ?_ <;> k_extra "my off1")
  k_with "my rel" => first
    | (with_reducible assumption)
    | ((with_reducible apply FIn.mono); (with_reducible assumption); k_extra "my sub")
    | ((with_reducible apply RelIn.mono); (with_reducible assumption); k_extra "my sub")
    | ((with_reducible apply VarIn.mono); (with_reducible assumption); k_extra "my sub")
    | ((with_reducible apply DecsIn.mono); (with_reducible assumption); k_extra "my sub")
    | ((with_reducible apply RelIn.mk); (focus k_extra "my mem"); (refine And.intro ?_ ?_ <;> with_reducible assumption))
    | ((with_reducible apply VarIn.mk); k_extra "my mem")
    | (with_reducible exact DecsIn.nil)
    | ((with_reducible apply DecsIn.cons); (focus ((with_reducible apply DecIn.at); (focus k_extra "my mem"); (focus (k_extra "my clean"; omega)); k_extra "my rel")); k_extra "my rel")
  k_with "my less" => first
    | exact Nat.lt_succ_self _
    | exact Nat.lt_succ_of_le (Nat.le_max_left _ _)
    | exact Nat.lt_succ_of_le (Nat.le_max_right _ _)
  k_with "my fin" => first
    | (k_extra "my rel")
    | ((with_reducible apply FIn.tf); k_extra "my mem")
    | ((with_reducible apply FIn.not); (focus k_extra "my mem"); k_extra "my fin")
    | ((with_reducible apply FIn.con0); (focus k_extra "my mem"); k_extra "my mem")
    | ((with_reducible apply FIn.con1); (focus k_extra "my mem"); (focus k_extra "my mem"); k_extra "my fin")
    | ((with_reducible apply FIn.con2); (focus k_extra "my mem"); (focus k_extra "my mem"); (focus k_extra "my fin"); k_extra "my fin")
    | ((with_reducible apply FIn.imp); (focus k_extra "my mem"); (focus k_extra "my fin"); k_extra "my fin")
    | ((with_reducible apply FIn.iff); (focus k_extra "my mem"); (focus k_extra "my fin"); k_extra "my fin")
    | ((with_reducible apply FIn.qu); (focus k_extra "my mem"); (focus k_extra "my mem"); (focus k_extra "my rel"); k_extra "my fin")
    | ((with_reducible apply FIn.some); (focus k_extra "my mem"); k_extra "my rel")
    | ((with_reducible apply FIn.inn); (focus k_extra "my mem"); (focus k_extra "my rel"); k_extra "my rel")
  k_with "my skip" => first
    | ((with_reducible apply skip_cons); (focus k_extra "my tst"); k_extra "my skip")
    | (with_reducible exact skip_nil)
  k_with "my walk" => (repeat' ((fail_if_success (with_reducible show LeaveK h₀ _ _ _ _ _ _)); first | ((fail_if_success (fail_if_success (with_reducible show wpAny _ _ (eval _ (compEnvC _ _ _ _)) (LCg.CompEnd _ _ _ _ _ _ _ _ _ _ _ _) _ _))); k_fold) | (k_unfold; (try dsimp only)) | walk1 | (dsimp only; walk1)))
  k_with "my steps" => (repeat' (first | ((fail_if_success (fail_if_success (with_reducible show wpAny _ _ (eval _ (compEnvC _ _ _ _)) (LCg.CompEnd _ _ _ _ _ _ _ _ _ _ _ _) _ _))); k_fold) | (k_unfold; (try dsimp only)) | walk1 | (dsimp only; walk1)))
  k_with "my bool" => first
    | ((with_reducible apply sel_one); (focus kernel_rfl!); kernel_rfl!)
    | ((with_reducible apply sel_two); (focus kernel_rfl!); kernel_rfl!)
    | ((with_reducible apply sel_no); (focus kernel_rfl!); kernel_rfl!)
    | ((with_reducible apply sel_in); (focus kernel_rfl!); kernel_rfl!)
    | kernel_rfl!
    | exact rfl
  k_with "my val" => first
    | ((with_reducible show Val _ _ _ _ _ _ _ _ (PySem.Expr.Name _ _) _); first
      | ((with_reducible apply val_local); (focus exact rfl); (focus exact rfl); (focus exact rfl); (focus exact rfl); decide)
      | ((with_reducible apply val_cell); (focus exact rfl); (focus exact rfl); (focus k_extra "my mem"); (focus k_asm); (focus exact rfl); (focus exact rfl); decide))
    | ((with_reducible show Val _ _ _ _ _ _ _ _ (PySem.Expr.Subscript _ _ _) _); (with_reducible apply val_item); (focus k_extra "my val"); (focus k_extra "my mem"); (focus (refine And.intro ?_ ?_; decide; exact rfl)); exact rfl)
    | ((with_reducible show Val _ _ _ _ _ _ _ _ (PySem.Expr.Subscript _ (PySem.Expr.Constant (PySem.Const.int 0) _ _) _) _); (with_reducible apply val_head); (focus k_extra "my val"); (focus with_reducible assumption); k_extra "my mem")
    | ((with_reducible show Val _ _ _ _ _ _ _ _ (PySem.Expr.Compare _ [PySem.CmpOp.Eq] _ _) _); (with_reducible apply val_eq); (focus k_extra "my val"); k_extra "my bool")
    | ((with_reducible show ValH _ _ _ _ _ _ _ _ (PySem.Expr.Compare _ [PySem.CmpOp.In] _ _) _); (with_reducible apply val_in); (focus k_extra "my val"); (focus exact rfl); (focus exact Nat.le_of_ble_eq_true rfl); k_extra "my bool")
  k_with "my tst" => first
    | ((with_reducible show Tst _ _ _ _ _ _ _ _ (PySem.Expr.Compare _ [PySem.CmpOp.In] _ _) _); (with_reducible apply tst_in); (focus k_extra "my val"); (focus exact rfl); (focus exact Nat.le_of_ble_eq_true rfl); k_extra "my bool")
    | ((with_reducible show Tst _ _ _ _ _ _ _ _ (PySem.Expr.Compare _ [PySem.CmpOp.Eq] [PySem.Expr.Constant _ _ _] _) _); (with_reducible apply tst_eq); (focus k_extra "my val"); k_extra "my bool")
    | ((with_reducible show Tst _ _ _ _ _ _ _ _ (PySem.Expr.Compare _ [PySem.CmpOp.NotEq] [PySem.Expr.Constant _ _ _] _) _); first
      | ((with_reducible apply tst_ne_f); (focus k_extra "my val"); k_extra "my bool")
      | ((with_reducible apply tst_ne_t); (focus k_extra "my val"); k_extra "my bool"))
    | ((with_reducible show Tst _ _ _ _ _ _ _ _ (PySem.Expr.Compare _ [PySem.CmpOp.Eq] [PySem.Expr.Name _ _] _) _); (with_reducible apply tst_eqb); (focus k_extra "my val"); (focus k_extra "my val"); exact rfl)
    | ((with_reducible show Tst _ _ _ _ _ _ _ _ (PySem.Expr.BoolOp _ _ _) _); first
      | ((with_reducible apply tst_or_no); (focus k_extra "my tst"); k_extra "my tst")
      | ((with_reducible apply tst_or_yes); k_extra "my tst"))
    | ((with_reducible show Tst _ _ _ _ _ _ _ _ (PySem.Expr.Name _ _) _); (with_reducible apply tst_val); (focus k_extra "my val"); intro _; rfl)
  k_with "execs cons If" => (k_here; k_dflt ((rename Fr _ _ _ _ => kF); (rename News _ _ _ _ => kN); first
    | (apply skip_use kF kN; (focus ((with_reducible apply skip_cons); (focus k_extra "my tst"); k_extra "my skip")); intro h' tk' F' N'; k_sweep)
    | ((with_reducible show wpAny _ _ (execs (PySem.Stmt.If _ [PySem.Stmt.Return (some _) _] _ _ :: _) _) _ _ _); refine s_yes kF kN ?_ ?_; (focus k_extra "my tst"); intro h' tk' F' N'; k_sweep)
    | (refine s_yes2 kF kN ?_ ?_; (focus k_extra "my tst"); intro h' tk' F' N'; k_sweep)))
  k_with "execs cons Return" => (k_here; with_reducible refine s_ret ?_)
  k_with "execs cons Assign" => (k_here; (with_reducible show wpAny _ _ (execs (PySem.Stmt.Assign [PySem.Expr.Name _ _] (PySem.Expr.Subscript _ (PySem.Expr.Constant _ _ _) _) _ :: _) _) _ _ _); k_dflt ((with_reducible apply s_let); (focus exact rfl); (focus k_asm); (focus k_asm); (focus k_extra "my val"); (focus exact rfl); (focus exact rfl); (focus exact rfl); intro h' tk' F' N'; k_sweep))
  k_with "ite" => first
    | (k_dflt (refine ite_pos ?_ ?_; (focus decide)))
    | (k_dflt (refine ite_neg ?_ ?_; (focus decide)))
    | (with_reducible refine ite_dec ?_ ?_ <;> intro _)
  k_with "eval Subscript" => (k_here; (with_reducible show wpAny _ _ (eval (PySem.Expr.Subscript _ (PySem.Expr.Constant _ _ _) _) _) _ _ _); k_dflt ((rename Fr _ _ _ _ => kF); (rename News _ _ _ _ => kN); apply e_val kF kN; (focus k_extra "my val"); intro tk'))
  k_with "eval Compare" => (k_here; k_dflt ((rename Fr _ _ _ _ => kF); (rename News _ _ _ _ => kN); first
    | ((with_reducible show wpAny _ _ (eval (PySem.Expr.Compare _ [PySem.CmpOp.In] _ _) _) _ _ _); apply e_valH kF kN; (focus k_extra "my val"); intro h' tk' F' N'; k_sweep)
    | (apply e_val kF kN; (focus k_extra "my val"); intro tk')))
  k_with "eval IfExp" => (k_here; k_dflt ((rename Fr _ _ _ _ => kF); (rename News _ _ _ _ => kN); first
    | ((with_reducible show wpAny _ _ (eval (PySem.Expr.IfExp _ (PySem.Expr.Constant (PySem.Const.str _) _ _) (PySem.Expr.Constant (PySem.Const.str _) _ _) _) _) _ _ _); apply e_sel kF kN; (focus k_extra "my tst"); intro h' tk' t' F' N'; k_sweep)
    | (refine e_no kF kN ?_ ?_; (focus k_extra "my tst"); intro h' tk' F' N'; k_sweep)
    | (refine e_yes kF kN ?_ ?_; (focus k_extra "my tst"); intro h' tk' F' N'; k_sweep)
    | (refine' e_if kF kN ?_ ?_ ?_; rotate_left; (focus k_extra "my tst"); (intro hc h' tk' F' N'; k_sweep); rotate_left; (intro hc h' tk' F' N'; k_sweep))))
  k_with "my val" => first
    | ((with_reducible show Val _ _ _ _ _ _ _ (compEnvC _ _ _ _) (PySem.Expr.Name _ _) _); first
      | ((with_reducible apply val_own); (focus k_extra "my mem"); (focus with_reducible assumption); (focus with_reducible assumption); (focus exact rfl); (focus exact rfl); decide)
      | ((with_reducible apply val_free); (focus exact rfl); (focus k_extra "my mem"); (focus k_asm); (focus exact rfl); (focus exact rfl); decide))
    | ((with_reducible show Val _ _ _ _ _ _ _ _ (PySem.Expr.UnaryOp _ _ _) _); (with_reducible apply val_not); k_extra "my val")
    | (with_reducible exact val_bool)
  k_with "my fn" => first
    | ((with_reducible show Val _ _ _ _ _ _ _ (compEnvC _ _ _ _) _ _); (with_reducible apply val_globC); (focus k_asm); (focus k_asm); (focus k_is); (focus exact rfl); (focus exact rfl); (focus exact rfl); decide)
    | ((with_reducible apply val_glob); (focus exact rfl); (focus k_asm); (focus k_asm); (focus k_is); (focus exact rfl); (focus exact rfl); decide)
  k_with "my arg" => first
    | (with_reducible exact arg_int)
    | (with_reducible exact arg_str)
    | ((with_reducible show Arg _ _ _ _ _ _ _ _ (PySem.Expr.BinOp _ _ _ _) _); (with_reducible apply arg_sub); k_extra "my val")
    | ((with_reducible apply arg_val); k_extra "my val")
  k_with "eval Call" => (k_here; k_dflt ((rename Fr _ _ _ _ => kF); (rename News _ _ _ _ => kN); first
    | ((with_reducible show wpAny _ _ (eval (PySem.Expr.Call (PySem.Expr.Name _ _) [_] [] _) _) _ _ _); apply e_call1 kF kN; (focus k_asm); (focus k_extra "my fn"); (focus k_is); (focus k_extra "my arg"); (focus exact rfl); (focus exact rfl); intro tk' t')
    | ((with_reducible show wpAny _ _ (eval (PySem.Expr.Call (PySem.Expr.Name _ _) [_, _] [] _) _) _ _ _); apply e_call2 kF kN; (focus k_asm); (focus k_extra "my fn"); (focus k_is); (focus k_extra "my arg"); (focus k_extra "my arg"); (focus exact rfl); (focus exact rfl); (focus exact rfl); (focus exact rfl); intro tk' t' u')
    | ((with_reducible show wpAny _ _ (eval (PySem.Expr.Call (PySem.Expr.Name _ _) [_, _, _] [] _) _) _ _ _); apply e_call3 kF kN; (focus k_asm); (focus k_extra "my fn"); (focus k_is); (focus k_extra "my arg"); (focus k_extra "my arg"); (focus k_extra "my arg"); (focus exact rfl); (focus exact rfl); (focus exact rfl); (focus exact rfl); (focus exact rfl); intro tk' t' u' v')))
  k_with "CompEnd" => (k_extra "my split"; k_dflt ((with_reducible apply comp_end); (focus k_asm); (focus k_asm); (focus k_extra "my mem"); (focus k_extra "my mem"); (focus k_extra "my mem"); (focus k_extra "my cut"); (focus (first | exact trivial | ((with_reducible apply src_at); k_extra "my mem") | k_extra "my mem"))))
  k_with "TupSrc" => (k_here; k_dflt ((with_reducible apply TupSrc.ledger); (focus exact rfl); (focus k_asm); (focus k_asm); (focus k_extra "my mem"); (focus (first | exact Nat.le_of_ble_eq_true rfl | size_fits)); intro g'; lcg_lit))
  k_with "subscriptTail" => (k_here; (with_reducible show wpAny _ _ (subscriptTail _ _ (Value.ref _) (Value.int _ _)) _ _ _); k_dflt ((with_reducible apply item_tupleT); (focus ((with_reducible apply News.isTup); (focus k_asm); k_extra "my mem")); (focus decide); (focus decide); (focus exact rfl); (focus exact rfl); k_whole))
  k_with "call ref" => (k_dflt (apply use_P; (focus k_asm); (focus k_asm); (focus k_asm); (focus k_asm); (focus k_asm); (focus (first | exact rfl | assumption)); (focus (apply MRel.mk; with_reducible assumption)); (focus (apply IH; k_extra "my less")); (focus k_extra "my sub"); (focus (apply room1 (size := manySize); (focus with_reducible assumption); k_extra "my less")); (focus (apply units1 (size := manySize); (focus with_reducible assumption); k_extra "my less")); intro r9 tl9 h9 tk9 F9 N9 hl9 ho9; (try simp only [List.forall_mem_cons, List.forall_mem_append] at hl9); (try simp only [List.nil_append, List.cons_append] at N9); (refine Exists.elim ho9 ?_; clear ho9; intro t9 e9; subst e9); (try dsimp only); (try k_fold)))
  k_with "eval ListComp" => (k_here; k_dflt (apply lc_tuple; (focus k_asm); (focus with_unfolding_all rfl); (focus decide); (focus rfl); (focus decide); (focus rfl)))
  refine wpAny_call ?_
  k_dflt ktr_enter
  cases hF
  all_goals (
    k_extra "my walk"
    all_goals (
      k_extra "my split"
      k_dflt (apply leave_P (Out := manyOut); (focus exact hret); (focus k_asm); (focus k_asm); (focus k_extra "my ends"))
      first | exact ⟨_, rfl⟩ | (refine ktn_int ?_; simp only [many]; omega)))
end Mine
namespace Mine
inductive PRel (news : Led) : List Value → Form → Prop where
  | mk {v f} : FIn news v f → plain f = true → PRel news [v] f
theorem plain_con {b : Bool} {f g : Form} (h : plain (.con2 b f g) = true) : plain f = true ∧ plain g = true := Bool.and_eq_true_iff.mp h
/-- the contrary's first word -/
@[reducible] noncomputable def cwd : Form → Str
  | .tf b => sel (!b) "true" "false"
  | .con0 b | .con1 b _ | .con2 b _ _ => sel (!b) "and" "or"
  | .qu b _ _ _ => sel (!b) "all" "exists"
  | .some _ | .inn _ _ | .not _ | .imp _ _ | .iff _ _ => Str.ofString ""
theorem cw_get (f : Form) : (PySem.Spec.lookup (PyData.str (opw f)) [(PyData.str (Str.ofString "and"), PyData.str (Str.ofString "or")), (PyData.str (Str.ofString "or"), PyData.str (Str.ofString "and")), (PyData.str (Str.ofString "all"), PyData.str (Str.ofString "exists")), (PyData.str (Str.ofString "exists"), PyData.str (Str.ofString "all")), (PyData.str (Str.ofString "true"), PyData.str (Str.ofString "false")), (PyData.str (Str.ofString "false"), PyData.str (Str.ofString "true"))]).getD (PyData.str (Str.ofString "")) = PyData.str (cwd f) := by
  cases f with
  | tf b => cases b <;> rfl
  | con0 b => cases b <;> rfl
  | con1 b => cases b <;> rfl
  | con2 b => cases b <;> rfl
  | qu b => cases b <;> rfl
  | _ => rfl
noncomputable abbrev contrSize (d : Form) : Nat := d.size
noncomputable abbrev contrOut (news : Led) (r : Value) (d : Form) : Prop := FIn news r (contr d)
theorem contr_ok (w : World) (mean : ExcName → Option Value) (mg mb : Str → Option Value) (d : Form) :
    Pure w mean mg mb 260 PRel contrSize contrOut d := by
  have hFill : heap = heap ∧ PySem.Challenge.rw_rr0087_01 = PySem.Challenge.rw_rr0087_01 := by
    k_fill
    exact ⟨rfl, rfl⟩
  clear hFill
  revert d
  refine pure_of fun d IH => ?_
  intro dp un gd cn cs a ccd cl outer A₀ base h₀ L m news nr s vs Q E B F X N T hk hs hR hd hu hret
  cases hR
  rename_i v hF hP
  obtain ⟨a9, t9, r9, n9, hv9, hm9⟩ := hF.head
  k_with_none
  k_with "my enter" => first
    | (refine' code_def ?k1_en0 ?k2_en0 ?k3_en0 ?k4_en0 ?k5_en0 ?kA_en0 ?kF_en0 ?kK_en0 ?k6_en0 ?k7_en0 ?k8_en0 ?k9_en0 ?kB_en0 ?_ ?c2_en0 ?c3_en0 ?c4_en0 ?c5_en0; (case kA_en0 => exact rfl); (case kF_en0 => exact rfl); (case kK_en0 => first | exact rfl | assumption); (case k1_en0 => k_asm); (case k2_en0 => k_asm); (case k3_en0 => k_asm); (case k4_en0 => k_asm); (case k5_en0 => k_asm); (case k6_en0 => k_is); (case k7_en0 => k_is); (case k8_en0 => ktr_room); (case k9_en0 => exact BindsTo.of_eq rfl); (case c5_en0 => decide); (case kB_en0 => exact locs rfl); (case c2_en0 => exact rfl); (case c3_en0 => exact rfl); (case c4_en0 => exact rfl); k_whole; intro g' L' h' FG' F' N' B' X' T'; (try dsimp only); (try k_fold))
    | (refine' code_defC ?k1_en1 ?k2_en1 ?k3_en1 ?k4_en1 ?k5_en1 ?kA_en1 ?kF_en1 ?kK_en1 ?k6_en1 ?k7_en1 ?k8_en1 ?k9_en1 ?kB_en1 ?kD_en1 ?_ ?c2_en1 ?c3_en1 ?c4_en1; (case kA_en1 => exact rfl); (case kF_en1 => exact rfl); (case kK_en1 => first | exact rfl | assumption); (case k1_en1 => k_asm); (case k2_en1 => k_asm); (case k3_en1 => k_asm); (case k4_en1 => k_asm); (case k5_en1 => k_asm); (case k6_en1 => k_is); (case k7_en1 => k_is); (case k8_en1 => ktr_room); (case k9_en1 => exact BindsTo.of_eq rfl); (case kB_en1 => exact rfl); (case kD_en1 => decide +kernel); (case c2_en1 => exact rfl); (case c3_en1 => exact rfl); (case c4_en1 => exact rfl); k_whole; intro g' L' h' tk' cells' FG' F' N' Y' B' X' T' l1; (try k_lt l1); (first | (refine cells1 Y' N' ?_; clear Y' N' cells'; intro o1' N' d1') | (refine cells2 Y' N' ?_; clear Y' N' cells'; intro o1' o2' N' d1' d2') | (refine cells3 Y' N' ?_; clear Y' N' cells'; intro o1' o2' o3' N' d1' d2' d3') | (refine cells4 Y' N' ?_; clear Y' N' cells'; intro o1' o2' o3' o4' N' d1' d2' d3' d4')); (repeat ((with_reducible rename (Obj.data _ = Data.cell (bindC _ _ _ _)) => hcl1); (first | (have hcl2 : Obj.data _ = Data.cell (some _) := hcl1) | (have hcl2 : Obj.data _ = Data.cell none := hcl1)); clear hcl1)); (try dsimp only); (try k_fold))
  k_with "my mem" => first
    | (with_reducible assumption)
    | (with_reducible exact List.mem_cons_self)
    | ((with_reducible refine mem_head ?_); exact rfl)
    | ((with_reducible refine List.mem_cons_of_mem _ ?_); k_extra "my mem")
    | ((with_reducible apply Sub.mem); (with_reducible assumption); (with_reducible assumption))
    | ((with_reducible refine List.mem_append.mpr (Or.inl ?_)); k_extra "my mem")
    | ((with_reducible refine List.mem_append.mpr (Or.inr ?_)); k_extra "my mem")
  k_with "my clean" => (repeat ((with_reducible rename (@Ne Nat _ _) => hNe); clear hNe))
  k_with "my split" => (repeat ((with_reducible rename (_ ∧ _) => hAnd); first | ((with_reducible refine (fun hAnd1 hAnd2 hAnd3 hAnd4 hAnd5 hAnd6 hAnd7 hAnd8 hAnd9 hAnd10 hAnd11 hAndR => ?_) (hAnd.1) (hAnd.2.1) (hAnd.2.2.1) (hAnd.2.2.2.1) (hAnd.2.2.2.2.1) (hAnd.2.2.2.2.2.1) (hAnd.2.2.2.2.2.2.1) (hAnd.2.2.2.2.2.2.2.1) (hAnd.2.2.2.2.2.2.2.2.1) (hAnd.2.2.2.2.2.2.2.2.2.1) (hAnd.2.2.2.2.2.2.2.2.2.2.1) (hAnd.2.2.2.2.2.2.2.2.2.2.2)); clear hAnd) | ((with_reducible refine (fun hAnd1 hAnd2 hAnd3 hAnd4 hAnd5 hAnd6 hAnd7 hAndR => ?_) (hAnd.1) (hAnd.2.1) (hAnd.2.2.1) (hAnd.2.2.2.1) (hAnd.2.2.2.2.1) (hAnd.2.2.2.2.2.1) (hAnd.2.2.2.2.2.2.1) (hAnd.2.2.2.2.2.2.2)); clear hAnd) | ((with_reducible refine (fun hAnd1 hAnd2 hAnd3 hAnd4 hAndR => ?_) (hAnd.1) (hAnd.2.1) (hAnd.2.2.1) (hAnd.2.2.2.1) (hAnd.2.2.2.2)); clear hAnd) | ((with_reducible refine (fun hAnd1 hAnd2 hAndR => ?_) (hAnd.1) (hAnd.2.1) (hAnd.2.2)); clear hAnd) | (have hAnd1 := And.left hAnd; have hAnd2 := And.right hAnd; clear hAnd)))
  k_with "my sub" => first
    | (with_reducible exact Sub.refl)
    | (with_reducible assumption)
    | (with_reducible exact Sub.nil)
    | (with_reducible refine Sub.app ?_ ?_ <;> k_extra "my sub")
    | ((with_reducible refine Sub.one ?_ ?_); k_extra "my mem"; k_extra "my sub")
    | ((with_reducible refine Sub.cons ?_); k_extra "my sub")
    | ((with_reducible refine Sub.left ?_); k_extra "my sub")
    | ((with_reducible refine Sub.right ?_); k_extra "my sub")
  k_with "my lt" => first
    | (with_reducible assumption)
    | ((with_reducible refine allLt_of ?_); with_reducible assumption)
    | ((with_reducible apply allLt_app); with_reducible assumption)
    | ((with_reducible apply allLt_app); with_reducible apply allLt_app; with_reducible assumption)
    | ((with_reducible apply allLt_app); with_reducible apply allLt_app; with_reducible apply allLt_app; with_reducible assumption)
    | ((with_reducible apply allLt_app); with_reducible apply allLt_app; with_reducible apply allLt_app; with_reducible apply allLt_app; with_reducible assumption)
    | ((with_reducible apply allLt_app); with_reducible apply allLt_app; with_reducible apply allLt_app; with_reducible apply allLt_app; with_reducible apply allLt_app; with_reducible assumption)
    | ((with_reducible apply allLt_app); with_reducible apply allLt_app; with_reducible apply allLt_app; with_reducible apply allLt_app; with_reducible apply allLt_app; with_reducible apply allLt_app; with_reducible assumption)
    | ((with_reducible apply allLt_app); with_reducible apply allLt_app; with_reducible apply allLt_app; with_reducible apply allLt_app; with_reducible apply allLt_app; with_reducible apply allLt_app; with_reducible apply allLt_app; with_reducible assumption)
  k_with "my ends" => first
    | (with_reducible exact Ends.base)
    | ((with_reducible apply Ends.app); with_reducible assumption)
    | ((with_reducible apply Ends.appR); (focus k_extra "my ends"); with_reducible assumption)
    | ((with_reducible apply Ends.cons); (focus k_extra "my lt"); k_extra "my ends")
    | ((with_reducible apply Ends.skip); k_extra "my ends")
  k_with "my ne" => first
    | (with_reducible assumption)
    | ((with_reducible refine Nat.ne_of_gt ?_); with_reducible assumption)
    | ((with_reducible refine Nat.ne_of_lt ?_); with_reducible assumption)
    | ((with_reducible refine Ne.symm ?_); with_reducible assumption)
    | ((with_reducible refine ne_up1 ?_); with_reducible assumption)
    | ((with_reducible refine ne_up2 ?_); with_reducible assumption)
    | ((with_reducible refine ne_up3 ?_); with_reducible assumption)
  k_with "my kne" => ((refine neN ?_); (try dsimp only); first
    | (k_extra "my ne")
    | exact Nat.ne_of_lt (Nat.lt_succ_self _)
    | exact Nat.ne_of_gt (Nat.lt_succ_self _)
    | exact Nat.ne_of_lt (Nat.lt_succ_of_lt (Nat.lt_succ_self _))
    | exact Nat.ne_of_gt (Nat.lt_succ_of_lt (Nat.lt_succ_self _))
    | ((refine Nat.ne_of_gt (Nat.lt_of_succ_lt ?_)); with_reducible assumption)
    | ((refine Nat.ne_of_gt (Nat.lt_of_succ_lt (Nat.lt_of_succ_lt ?_))); with_reducible assumption))
  k_with "my off" => first
    | (with_reducible assumption)
    | (with_reducible refine off3_lt ?_ ?_ ?_ <;> with_reducible assumption)
    | (with_reducible refine off3_app ?_ ?_ <;> k_extra "my off")
  k_with "my cut" => first
    | ((with_reducible apply Cut.skipI); k_extra "my cut")
    | ((with_reducible apply Cut.skipC); k_extra "my cut")
    | ((with_reducible apply Cut.skipD); k_extra "my cut")
    | ((with_reducible apply Cut.cons); (focus k_extra "my ne"); (focus k_extra "my ne"); (focus k_extra "my ne"); k_extra "my cut")
    | ((with_reducible apply Cut.base); k_extra "my off")
    | ((with_reducible apply Cut.skip); k_extra "my cut")
  k_with "my off1" => first
    | (with_reducible assumption)
    | ((with_reducible refine off1_lt ?_); with_reducible assumption)
    | (with_reducible refine off1_app ?_ ?_ <;> k_extra "my off1")
  k_with "my rel" => first
    | (with_reducible assumption)
    | ((with_reducible apply FIn.mono); (with_reducible assumption); k_extra "my sub")
    | ((with_reducible apply RelIn.mono); (with_reducible assumption); k_extra "my sub")
    | ((with_reducible apply VarIn.mono); (with_reducible assumption); k_extra "my sub")
    | ((with_reducible apply DecsIn.mono); (with_reducible assumption); k_extra "my sub")
    | ((with_reducible apply RelIn.mk); (focus k_extra "my mem"); (refine And.intro ?_ ?_ <;> with_reducible assumption))
    | ((with_reducible apply VarIn.mk); k_extra "my mem")
    | (with_reducible exact DecsIn.nil)
    | ((with_reducible apply DecsIn.cons); (focus ((with_reducible apply DecIn.at); (focus k_extra "my mem"); (focus (k_extra "my clean"; omega)); k_extra "my rel")); k_extra "my rel")
  k_with "my less" => first
    | exact Nat.lt_succ_self _
    | exact Nat.lt_succ_of_le (Nat.le_max_left _ _)
    | exact Nat.lt_succ_of_le (Nat.le_max_right _ _)
  k_with "my fin" => first
    | (k_extra "my rel")
    | ((with_reducible apply FIn.tf); k_extra "my mem")
    | ((with_reducible apply FIn.not); (focus k_extra "my mem"); k_extra "my fin")
    | ((with_reducible apply FIn.con0); (focus k_extra "my mem"); k_extra "my mem")
    | ((with_reducible apply FIn.con1); (focus k_extra "my mem"); (focus k_extra "my mem"); k_extra "my fin")
    | ((with_reducible apply FIn.con2); (focus k_extra "my mem"); (focus k_extra "my mem"); (focus k_extra "my fin"); k_extra "my fin")
    | ((with_reducible apply FIn.imp); (focus k_extra "my mem"); (focus k_extra "my fin"); k_extra "my fin")
    | ((with_reducible apply FIn.iff); (focus k_extra "my mem"); (focus k_extra "my fin"); k_extra "my fin")
    | ((with_reducible apply FIn.qu); (focus k_extra "my mem"); (focus k_extra "my mem"); (focus k_extra "my rel"); k_extra "my fin")
    | ((with_reducible apply FIn.some); (focus k_extra "my mem"); k_extra "my rel")
    | ((with_reducible apply FIn.inn); (focus k_extra "my mem"); (focus k_extra "my rel"); k_extra "my rel")
  k_with "my skip" => first
    | ((with_reducible apply skip_cons); (focus k_extra "my tst"); k_extra "my skip")
    | (with_reducible exact skip_nil)
  k_with "my walk" => (repeat' ((fail_if_success (with_reducible show LeaveK h₀ _ _ _ _ _ _)); first | ((fail_if_success (fail_if_success (with_reducible show wpAny _ _ (eval _ (compEnvC _ _ _ _)) (LCg.CompEnd _ _ _ _ _ _ _ _ _ _ _ _) _ _))); k_fold) | (k_unfold; (try dsimp only)) | walk1 | (dsimp only; walk1)))
  k_with "my steps" => (repeat' (first | ((fail_if_success (fail_if_success (with_reducible show wpAny _ _ (eval _ (compEnvC _ _ _ _)) (LCg.CompEnd _ _ _ _ _ _ _ _ _ _ _ _) _ _))); k_fold) | (k_unfold; (try dsimp only)) | walk1 | (dsimp only; walk1)))
  k_with "my bool" => first
    | ((with_reducible apply sel_one); (focus kernel_rfl!); kernel_rfl!)
    | ((with_reducible apply sel_two); (focus kernel_rfl!); kernel_rfl!)
    | ((with_reducible apply sel_no); (focus kernel_rfl!); kernel_rfl!)
    | ((with_reducible apply sel_in); (focus kernel_rfl!); kernel_rfl!)
    | kernel_rfl!
    | exact rfl
  k_with "my val" => first
    | ((with_reducible show Val _ _ _ _ _ _ _ _ (PySem.Expr.Name _ _) _); first
      | ((with_reducible apply val_local); (focus exact rfl); (focus exact rfl); (focus exact rfl); (focus exact rfl); decide)
      | ((with_reducible apply val_cell); (focus exact rfl); (focus exact rfl); (focus k_extra "my mem"); (focus k_asm); (focus exact rfl); (focus exact rfl); decide))
    | ((with_reducible show Val _ _ _ _ _ _ _ _ (PySem.Expr.Subscript _ _ _) _); (with_reducible apply val_item); (focus k_extra "my val"); (focus k_extra "my mem"); (focus (refine And.intro ?_ ?_; decide; exact rfl)); exact rfl)
    | ((with_reducible show Val _ _ _ _ _ _ _ _ (PySem.Expr.Subscript _ (PySem.Expr.Constant (PySem.Const.int 0) _ _) _) _); (with_reducible apply val_head); (focus k_extra "my val"); (focus with_reducible assumption); k_extra "my mem")
    | ((with_reducible show Val _ _ _ _ _ _ _ _ (PySem.Expr.Compare _ [PySem.CmpOp.Eq] _ _) _); (with_reducible apply val_eq); (focus k_extra "my val"); k_extra "my bool")
    | ((with_reducible show ValH _ _ _ _ _ _ _ _ (PySem.Expr.Compare _ [PySem.CmpOp.In] _ _) _); (with_reducible apply val_in); (focus k_extra "my val"); (focus exact rfl); (focus exact Nat.le_of_ble_eq_true rfl); k_extra "my bool")
  k_with "my tst" => first
    | ((with_reducible show Tst _ _ _ _ _ _ _ _ (PySem.Expr.Compare _ [PySem.CmpOp.In] _ _) _); (with_reducible apply tst_in); (focus k_extra "my val"); (focus exact rfl); (focus exact Nat.le_of_ble_eq_true rfl); k_extra "my bool")
    | ((with_reducible show Tst _ _ _ _ _ _ _ _ (PySem.Expr.Compare _ [PySem.CmpOp.Eq] [PySem.Expr.Constant _ _ _] _) _); (with_reducible apply tst_eq); (focus k_extra "my val"); k_extra "my bool")
    | ((with_reducible show Tst _ _ _ _ _ _ _ _ (PySem.Expr.Compare _ [PySem.CmpOp.NotEq] [PySem.Expr.Constant _ _ _] _) _); first
      | ((with_reducible apply tst_ne_f); (focus k_extra "my val"); k_extra "my bool")
      | ((with_reducible apply tst_ne_t); (focus k_extra "my val"); k_extra "my bool"))
    | ((with_reducible show Tst _ _ _ _ _ _ _ _ (PySem.Expr.Compare _ [PySem.CmpOp.Eq] [PySem.Expr.Name _ _] _) _); (with_reducible apply tst_eqb); (focus k_extra "my val"); (focus k_extra "my val"); exact rfl)
    | ((with_reducible show Tst _ _ _ _ _ _ _ _ (PySem.Expr.BoolOp _ _ _) _); first
      | ((with_reducible apply tst_or_no); (focus k_extra "my tst"); k_extra "my tst")
      | ((with_reducible apply tst_or_yes); k_extra "my tst"))
    | ((with_reducible show Tst _ _ _ _ _ _ _ _ (PySem.Expr.Name _ _) _); (with_reducible apply tst_val); (focus k_extra "my val"); intro _; rfl)
  k_with "execs cons If" => (k_here; k_dflt ((rename Fr _ _ _ _ => kF); (rename News _ _ _ _ => kN); first
    | (apply skip_use kF kN; (focus ((with_reducible apply skip_cons); (focus k_extra "my tst"); k_extra "my skip")); intro h' tk' F' N'; k_sweep)
    | ((with_reducible show wpAny _ _ (execs (PySem.Stmt.If _ [PySem.Stmt.Return (some _) _] _ _ :: _) _) _ _ _); refine s_yes kF kN ?_ ?_; (focus k_extra "my tst"); intro h' tk' F' N'; k_sweep)
    | (refine s_yes2 kF kN ?_ ?_; (focus k_extra "my tst"); intro h' tk' F' N'; k_sweep)))
  k_with "execs cons Return" => (k_here; with_reducible refine s_ret ?_)
  k_with "execs cons Assign" => (k_here; (with_reducible show wpAny _ _ (execs (PySem.Stmt.Assign [PySem.Expr.Name _ _] (PySem.Expr.Subscript _ (PySem.Expr.Constant _ _ _) _) _ :: _) _) _ _ _); k_dflt ((with_reducible apply s_let); (focus exact rfl); (focus k_asm); (focus k_asm); (focus k_extra "my val"); (focus exact rfl); (focus exact rfl); (focus exact rfl); intro h' tk' F' N'; k_sweep))
  k_with "ite" => first
    | (k_dflt (refine ite_pos ?_ ?_; (focus decide)))
    | (k_dflt (refine ite_neg ?_ ?_; (focus decide)))
    | (with_reducible refine ite_dec ?_ ?_ <;> intro _)
  k_with "eval Subscript" => (k_here; (with_reducible show wpAny _ _ (eval (PySem.Expr.Subscript _ (PySem.Expr.Constant _ _ _) _) _) _ _ _); k_dflt ((rename Fr _ _ _ _ => kF); (rename News _ _ _ _ => kN); apply e_val kF kN; (focus k_extra "my val"); intro tk'))
  k_with "eval Compare" => (k_here; k_dflt ((rename Fr _ _ _ _ => kF); (rename News _ _ _ _ => kN); first
    | ((with_reducible show wpAny _ _ (eval (PySem.Expr.Compare _ [PySem.CmpOp.In] _ _) _) _ _ _); apply e_valH kF kN; (focus k_extra "my val"); intro h' tk' F' N'; k_sweep)
    | (apply e_val kF kN; (focus k_extra "my val"); intro tk')))
  k_with "eval IfExp" => (k_here; k_dflt ((rename Fr _ _ _ _ => kF); (rename News _ _ _ _ => kN); first
    | ((with_reducible show wpAny _ _ (eval (PySem.Expr.IfExp _ (PySem.Expr.Constant (PySem.Const.str _) _ _) (PySem.Expr.Constant (PySem.Const.str _) _ _) _) _) _ _ _); apply e_sel kF kN; (focus k_extra "my tst"); intro h' tk' t' F' N'; k_sweep)
    | (refine e_no kF kN ?_ ?_; (focus k_extra "my tst"); intro h' tk' F' N'; k_sweep)
    | (refine e_yes kF kN ?_ ?_; (focus k_extra "my tst"); intro h' tk' F' N'; k_sweep)
    | (refine' e_if kF kN ?_ ?_ ?_; rotate_left; (focus k_extra "my tst"); (intro hc h' tk' F' N'; k_sweep); rotate_left; (intro hc h' tk' F' N'; k_sweep))))
  k_with "my val" => first
    | ((with_reducible show Val _ _ _ _ _ _ _ (compEnvC _ _ _ _) (PySem.Expr.Name _ _) _); first
      | ((with_reducible apply val_own); (focus k_extra "my mem"); (focus with_reducible assumption); (focus with_reducible assumption); (focus exact rfl); (focus exact rfl); decide)
      | ((with_reducible apply val_free); (focus exact rfl); (focus k_extra "my mem"); (focus k_asm); (focus exact rfl); (focus exact rfl); decide))
    | ((with_reducible show Val _ _ _ _ _ _ _ _ (PySem.Expr.UnaryOp _ _ _) _); (with_reducible apply val_not); k_extra "my val")
    | (with_reducible exact val_bool)
  k_with "my fn" => first
    | ((with_reducible show Val _ _ _ _ _ _ _ (compEnvC _ _ _ _) _ _); (with_reducible apply val_globC); (focus k_asm); (focus k_asm); (focus k_is); (focus exact rfl); (focus exact rfl); (focus exact rfl); decide)
    | ((with_reducible apply val_glob); (focus exact rfl); (focus k_asm); (focus k_asm); (focus k_is); (focus exact rfl); (focus exact rfl); decide)
  k_with "my arg" => first
    | (with_reducible exact arg_int)
    | (with_reducible exact arg_str)
    | ((with_reducible show Arg _ _ _ _ _ _ _ _ (PySem.Expr.BinOp _ _ _ _) _); (with_reducible apply arg_sub); k_extra "my val")
    | ((with_reducible apply arg_val); k_extra "my val")
  k_with "eval Call" => (k_here; k_dflt ((rename Fr _ _ _ _ => kF); (rename News _ _ _ _ => kN); first
    | ((with_reducible show wpAny _ _ (eval (PySem.Expr.Call (PySem.Expr.Name _ _) [_] [] _) _) _ _ _); apply e_call1 kF kN; (focus k_asm); (focus k_extra "my fn"); (focus k_is); (focus k_extra "my arg"); (focus exact rfl); (focus exact rfl); intro tk' t')
    | ((with_reducible show wpAny _ _ (eval (PySem.Expr.Call (PySem.Expr.Name _ _) [_, _] [] _) _) _ _ _); apply e_call2 kF kN; (focus k_asm); (focus k_extra "my fn"); (focus k_is); (focus k_extra "my arg"); (focus k_extra "my arg"); (focus exact rfl); (focus exact rfl); (focus exact rfl); (focus exact rfl); intro tk' t' u')
    | ((with_reducible show wpAny _ _ (eval (PySem.Expr.Call (PySem.Expr.Name _ _) [_, _, _] [] _) _) _ _ _); apply e_call3 kF kN; (focus k_asm); (focus k_extra "my fn"); (focus k_is); (focus k_extra "my arg"); (focus k_extra "my arg"); (focus k_extra "my arg"); (focus exact rfl); (focus exact rfl); (focus exact rfl); (focus exact rfl); (focus exact rfl); intro tk' t' u' v')))
  k_with "CompEnd" => (k_extra "my split"; k_dflt ((with_reducible apply comp_end); (focus k_asm); (focus k_asm); (focus k_extra "my mem"); (focus k_extra "my mem"); (focus k_extra "my mem"); (focus k_extra "my cut"); (focus (first | exact trivial | ((with_reducible apply src_at); k_extra "my mem") | k_extra "my mem"))))
  k_with "TupSrc" => (k_here; k_dflt ((with_reducible apply TupSrc.ledger); (focus exact rfl); (focus k_asm); (focus k_asm); (focus k_extra "my mem"); (focus (first | exact Nat.le_of_ble_eq_true rfl | size_fits)); intro g'; lcg_lit))
  k_with "subscriptTail" => (k_here; (with_reducible show wpAny _ _ (subscriptTail _ _ (Value.ref _) (Value.int _ _)) _ _ _); k_dflt ((with_reducible apply item_tupleT); (focus ((with_reducible apply News.isTup); (focus k_asm); k_extra "my mem")); (focus decide); (focus decide); (focus exact rfl); (focus exact rfl); k_whole))
  k_with "call ref" => (k_dflt (apply use_P; (focus k_asm); (focus k_asm); (focus k_asm); (focus k_asm); (focus k_asm); (focus (first | exact rfl | assumption)); (focus (apply PRel.mk; (focus with_reducible assumption); (first | (with_reducible assumption) | exact hP | exact (plain_con hP).1 | exact (plain_con hP).2))); (focus (apply IH; k_extra "my less")); (focus k_extra "my sub"); (focus (apply room1 (size := contrSize); (focus with_reducible assumption); k_extra "my less")); (focus (apply units1 (size := contrSize); (focus with_reducible assumption); k_extra "my less")); intro r9 tl9 h9 tk9 F9 N9 hl9 ho9; (try simp only [List.forall_mem_cons, List.forall_mem_append] at hl9); (try simp only [List.nil_append, List.cons_append] at N9); (simp only [contrOut] at ho9); (try dsimp only); (try k_fold)))
  k_with "eval ListComp" => (k_here; k_dflt (apply lc_tuple; (focus k_asm); (focus with_unfolding_all rfl); (focus decide); (focus rfl); (focus decide); (focus rfl)))
  k_with "call builtin:dict.get" => (k_here; k_dflt (apply word_get; (focus k_tabat); (focus k_flat); (focus (first | exact cw_get _ | exact rfl)); intro t' tk'))
  k_with "my first" => (repeat ((fail_if_success (with_reducible show wpAny _ _ (execs (PySem.Stmt.If _ _ _ _ :: _) _) _ _ _)); first | (k_unfold; (try dsimp only)) | walk1 | (dsimp only; walk1)))
  refine wpAny_call ?_
  k_dflt ktr_enter
  k_extra "my first"
  clear hv9 hm9
  cases hF
  case' imp => cases hP
  case' iff => cases hP
  case' not => skip
  all_goals (
    k_extra "my walk"
    all_goals (
      k_extra "my split"
      k_dflt (apply leave_P (Out := contrOut); (focus exact hret); (focus k_asm); (focus k_asm); (focus k_extra "my ends"))
      all_goals (simp only [contrOut, contr])
      first
        | (k_extra "my fin")
        | (rw [← sel_not]; k_extra "my fin")))
end Mine
namespace Mine
theorem open_size {dp un z : Nat} (h : dp + z < recursionLimit) (k : un + 8 * z < cLine) (l : 11 ≤ z) : ∃ z, 11 ≤ z ∧ dp + z < recursionLimit ∧ un + 8 * z < cLine := ⟨z, l, h, k⟩
theorem plus10 {a b : Nat} (h : a < b) : a + 10 < b + 10 := Nat.add_lt_add_right h 10
noncomputable abbrev plSize (d : Form) : Nat := d.size + 10
noncomputable abbrev plOut (_ : Led) (r : Value) (_ : Form) : Prop := r = .bool true
theorem pl_ok (w : World) (mean : ExcName → Option Value) (mg mb : Str → Option Value) (d : Form) :
    Pure w mean mg mb 255 PRel plSize plOut d := by
  have hFill : heap = heap ∧ PySem.Challenge.rw_rr0087_01 = PySem.Challenge.rw_rr0087_01 := by
    k_fill
    exact ⟨rfl, rfl⟩
  clear hFill
  revert d
  refine pure_of fun d IH => ?_
  intro dp un gd cn cs a ccd cl outer A₀ base h₀ L m news nr s vs Q E B F X N T hk hs hR hd hu hret
  cases hR
  rename_i v hF hP
  k_with_none
  k_with "my enter" => first
    | (refine' code_def ?k1_en0 ?k2_en0 ?k3_en0 ?k4_en0 ?k5_en0 ?kA_en0 ?kF_en0 ?kK_en0 ?k6_en0 ?k7_en0 ?k8_en0 ?k9_en0 ?kB_en0 ?_ ?c2_en0 ?c3_en0 ?c4_en0 ?c5_en0; (case kA_en0 => exact rfl); (case kF_en0 => exact rfl); (case kK_en0 => first | exact rfl | assumption); (case k1_en0 => k_asm); (case k2_en0 => k_asm); (case k3_en0 => k_asm); (case k4_en0 => k_asm); (case k5_en0 => k_asm); (case k6_en0 => k_is); (case k7_en0 => k_is); (case k8_en0 => ktr_room); (case k9_en0 => exact BindsTo.of_eq rfl); (case c5_en0 => decide); (case kB_en0 => exact locs rfl); (case c2_en0 => exact rfl); (case c3_en0 => exact rfl); (case c4_en0 => exact rfl); k_whole; intro g' L' h' FG' F' N' B' X' T'; (try dsimp only); (try k_fold))
    | (refine' code_defC ?k1_en1 ?k2_en1 ?k3_en1 ?k4_en1 ?k5_en1 ?kA_en1 ?kF_en1 ?kK_en1 ?k6_en1 ?k7_en1 ?k8_en1 ?k9_en1 ?kB_en1 ?kD_en1 ?_ ?c2_en1 ?c3_en1 ?c4_en1; (case kA_en1 => exact rfl); (case kF_en1 => exact rfl); (case kK_en1 => first | exact rfl | assumption); (case k1_en1 => k_asm); (case k2_en1 => k_asm); (case k3_en1 => k_asm); (case k4_en1 => k_asm); (case k5_en1 => k_asm); (case k6_en1 => k_is); (case k7_en1 => k_is); (case k8_en1 => ktr_room); (case k9_en1 => exact BindsTo.of_eq rfl); (case kB_en1 => exact rfl); (case kD_en1 => decide +kernel); (case c2_en1 => exact rfl); (case c3_en1 => exact rfl); (case c4_en1 => exact rfl); k_whole; intro g' L' h' tk' cells' FG' F' N' Y' B' X' T' l1; (try k_lt l1); (first | (refine cells1 Y' N' ?_; clear Y' N' cells'; intro o1' N' d1') | (refine cells2 Y' N' ?_; clear Y' N' cells'; intro o1' o2' N' d1' d2') | (refine cells3 Y' N' ?_; clear Y' N' cells'; intro o1' o2' o3' N' d1' d2' d3') | (refine cells4 Y' N' ?_; clear Y' N' cells'; intro o1' o2' o3' o4' N' d1' d2' d3' d4')); (repeat ((with_reducible rename (Obj.data _ = Data.cell (bindC _ _ _ _)) => hcl1); (first | (have hcl2 : Obj.data _ = Data.cell (some _) := hcl1) | (have hcl2 : Obj.data _ = Data.cell none := hcl1)); clear hcl1)); (try dsimp only); (try k_fold))
  k_with "my mem" => first
    | (with_reducible assumption)
    | (with_reducible exact List.mem_cons_self)
    | ((with_reducible refine mem_head ?_); exact rfl)
    | ((with_reducible refine List.mem_cons_of_mem _ ?_); k_extra "my mem")
    | ((with_reducible apply Sub.mem); (with_reducible assumption); (with_reducible assumption))
    | ((with_reducible refine List.mem_append.mpr (Or.inl ?_)); k_extra "my mem")
    | ((with_reducible refine List.mem_append.mpr (Or.inr ?_)); k_extra "my mem")
  k_with "my clean" => (repeat ((with_reducible rename (@Ne Nat _ _) => hNe); clear hNe))
  k_with "my split" => (repeat ((with_reducible rename (_ ∧ _) => hAnd); first | ((with_reducible refine (fun hAnd1 hAnd2 hAnd3 hAnd4 hAnd5 hAnd6 hAnd7 hAnd8 hAnd9 hAnd10 hAnd11 hAndR => ?_) (hAnd.1) (hAnd.2.1) (hAnd.2.2.1) (hAnd.2.2.2.1) (hAnd.2.2.2.2.1) (hAnd.2.2.2.2.2.1) (hAnd.2.2.2.2.2.2.1) (hAnd.2.2.2.2.2.2.2.1) (hAnd.2.2.2.2.2.2.2.2.1) (hAnd.2.2.2.2.2.2.2.2.2.1) (hAnd.2.2.2.2.2.2.2.2.2.2.1) (hAnd.2.2.2.2.2.2.2.2.2.2.2)); clear hAnd) | ((with_reducible refine (fun hAnd1 hAnd2 hAnd3 hAnd4 hAnd5 hAnd6 hAnd7 hAndR => ?_) (hAnd.1) (hAnd.2.1) (hAnd.2.2.1) (hAnd.2.2.2.1) (hAnd.2.2.2.2.1) (hAnd.2.2.2.2.2.1) (hAnd.2.2.2.2.2.2.1) (hAnd.2.2.2.2.2.2.2)); clear hAnd) | ((with_reducible refine (fun hAnd1 hAnd2 hAnd3 hAnd4 hAndR => ?_) (hAnd.1) (hAnd.2.1) (hAnd.2.2.1) (hAnd.2.2.2.1) (hAnd.2.2.2.2)); clear hAnd) | ((with_reducible refine (fun hAnd1 hAnd2 hAndR => ?_) (hAnd.1) (hAnd.2.1) (hAnd.2.2)); clear hAnd) | (have hAnd1 := And.left hAnd; have hAnd2 := And.right hAnd; clear hAnd)))
  k_with "my sub" => first
    | (with_reducible exact Sub.refl)
    | (with_reducible assumption)
    | (with_reducible exact Sub.nil)
    | (with_reducible refine Sub.app ?_ ?_ <;> k_extra "my sub")
    | ((with_reducible refine Sub.one ?_ ?_); k_extra "my mem"; k_extra "my sub")
    | ((with_reducible refine Sub.cons ?_); k_extra "my sub")
    | ((with_reducible refine Sub.left ?_); k_extra "my sub")
    | ((with_reducible refine Sub.right ?_); k_extra "my sub")
  k_with "my lt" => first
    | (with_reducible assumption)
    | ((with_reducible refine allLt_of ?_); with_reducible assumption)
    | ((with_reducible apply allLt_app); with_reducible assumption)
    | ((with_reducible apply allLt_app); with_reducible apply allLt_app; with_reducible assumption)
    | ((with_reducible apply allLt_app); with_reducible apply allLt_app; with_reducible apply allLt_app; with_reducible assumption)
    | ((with_reducible apply allLt_app); with_reducible apply allLt_app; with_reducible apply allLt_app; with_reducible apply allLt_app; with_reducible assumption)
    | ((with_reducible apply allLt_app); with_reducible apply allLt_app; with_reducible apply allLt_app; with_reducible apply allLt_app; with_reducible apply allLt_app; with_reducible assumption)
    | ((with_reducible apply allLt_app); with_reducible apply allLt_app; with_reducible apply allLt_app; with_reducible apply allLt_app; with_reducible apply allLt_app; with_reducible apply allLt_app; with_reducible assumption)
    | ((with_reducible apply allLt_app); with_reducible apply allLt_app; with_reducible apply allLt_app; with_reducible apply allLt_app; with_reducible apply allLt_app; with_reducible apply allLt_app; with_reducible apply allLt_app; with_reducible assumption)
  k_with "my ends" => first
    | (with_reducible exact Ends.base)
    | ((with_reducible apply Ends.app); with_reducible assumption)
    | ((with_reducible apply Ends.appR); (focus k_extra "my ends"); with_reducible assumption)
    | ((with_reducible apply Ends.cons); (focus k_extra "my lt"); k_extra "my ends")
    | ((with_reducible apply Ends.skip); k_extra "my ends")
  k_with "my ne" => first
    | (with_reducible assumption)
    | ((with_reducible refine Nat.ne_of_gt ?_); with_reducible assumption)
    | ((with_reducible refine Nat.ne_of_lt ?_); with_reducible assumption)
    | ((with_reducible refine Ne.symm ?_); with_reducible assumption)
    | ((with_reducible refine ne_up1 ?_); with_reducible assumption)
    | ((with_reducible refine ne_up2 ?_); with_reducible assumption)
    | ((with_reducible refine ne_up3 ?_); with_reducible assumption)
  k_with "my kne" => ((refine neN ?_); (try dsimp only); first
    | (k_extra "my ne")
    | exact Nat.ne_of_lt (Nat.lt_succ_self _)
    | exact Nat.ne_of_gt (Nat.lt_succ_self _)
    | exact Nat.ne_of_lt (Nat.lt_succ_of_lt (Nat.lt_succ_self _))
    | exact Nat.ne_of_gt (Nat.lt_succ_of_lt (Nat.lt_succ_self _))
    | ((refine Nat.ne_of_gt (Nat.lt_of_succ_lt ?_)); with_reducible assumption)
    | ((refine Nat.ne_of_gt (Nat.lt_of_succ_lt (Nat.lt_of_succ_lt ?_))); with_reducible assumption))
  k_with "my off" => first
    | (with_reducible assumption)
    | (with_reducible refine off3_lt ?_ ?_ ?_ <;> with_reducible assumption)
    | (with_reducible refine off3_app ?_ ?_ <;> k_extra "my off")
  k_with "my cut" => first
    | ((with_reducible apply Cut.skipI); k_extra "my cut")
    | ((with_reducible apply Cut.skipC); k_extra "my cut")
    | ((with_reducible apply Cut.skipD); k_extra "my cut")
    | ((with_reducible apply Cut.cons); (focus k_extra "my ne"); (focus k_extra "my ne"); (focus k_extra "my ne"); k_extra "my cut")
    | ((with_reducible apply Cut.base); k_extra "my off")
    | ((with_reducible apply Cut.skip); k_extra "my cut")
  k_with "my off1" => first
    | (with_reducible assumption)
    | ((with_reducible refine off1_lt ?_); with_reducible assumption)
    | (with_reducible refine off1_app ?_ ?_ <;> k_extra "my off1")
  k_with "my rel" => first
    | (with_reducible assumption)
    | ((with_reducible apply FIn.mono); (with_reducible assumption); k_extra "my sub")
    | ((with_reducible apply RelIn.mono); (with_reducible assumption); k_extra "my sub")
    | ((with_reducible apply VarIn.mono); (with_reducible assumption); k_extra "my sub")
    | ((with_reducible apply DecsIn.mono); (with_reducible assumption); k_extra "my sub")
    | ((with_reducible apply RelIn.mk); (focus k_extra "my mem"); (refine And.intro ?_ ?_ <;> with_reducible assumption))
    | ((with_reducible apply VarIn.mk); k_extra "my mem")
    | (with_reducible exact DecsIn.nil)
    | ((with_reducible apply DecsIn.cons); (focus ((with_reducible apply DecIn.at); (focus k_extra "my mem"); (focus (k_extra "my clean"; omega)); k_extra "my rel")); k_extra "my rel")
  k_with "my less" => first
    | exact Nat.lt_succ_self _
    | exact Nat.lt_succ_of_le (Nat.le_max_left _ _)
    | exact Nat.lt_succ_of_le (Nat.le_max_right _ _)
  k_with "my fin" => first
    | (k_extra "my rel")
    | ((with_reducible apply FIn.tf); k_extra "my mem")
    | ((with_reducible apply FIn.not); (focus k_extra "my mem"); k_extra "my fin")
    | ((with_reducible apply FIn.con0); (focus k_extra "my mem"); k_extra "my mem")
    | ((with_reducible apply FIn.con1); (focus k_extra "my mem"); (focus k_extra "my mem"); k_extra "my fin")
    | ((with_reducible apply FIn.con2); (focus k_extra "my mem"); (focus k_extra "my mem"); (focus k_extra "my fin"); k_extra "my fin")
    | ((with_reducible apply FIn.imp); (focus k_extra "my mem"); (focus k_extra "my fin"); k_extra "my fin")
    | ((with_reducible apply FIn.iff); (focus k_extra "my mem"); (focus k_extra "my fin"); k_extra "my fin")
    | ((with_reducible apply FIn.qu); (focus k_extra "my mem"); (focus k_extra "my mem"); (focus k_extra "my rel"); k_extra "my fin")
    | ((with_reducible apply FIn.some); (focus k_extra "my mem"); k_extra "my rel")
    | ((with_reducible apply FIn.inn); (focus k_extra "my mem"); (focus k_extra "my rel"); k_extra "my rel")
  k_with "my skip" => first
    | ((with_reducible apply skip_cons); (focus k_extra "my tst"); k_extra "my skip")
    | (with_reducible exact skip_nil)
  k_with "my walk" => (repeat' ((fail_if_success (with_reducible show LeaveK h₀ _ _ _ _ _ _)); first | ((fail_if_success (fail_if_success (with_reducible show wpAny _ _ (eval _ (compEnvC _ _ _ _)) (LCg.CompEnd _ _ _ _ _ _ _ _ _ _ _ _) _ _))); k_fold) | (k_unfold; (try dsimp only)) | walk1 | (dsimp only; walk1)))
  k_with "my steps" => (repeat' (first | ((fail_if_success (fail_if_success (with_reducible show wpAny _ _ (eval _ (compEnvC _ _ _ _)) (LCg.CompEnd _ _ _ _ _ _ _ _ _ _ _ _) _ _))); k_fold) | (k_unfold; (try dsimp only)) | walk1 | (dsimp only; walk1)))
  k_with "my bool" => first
    | ((with_reducible apply sel_one); (focus kernel_rfl!); kernel_rfl!)
    | ((with_reducible apply sel_two); (focus kernel_rfl!); kernel_rfl!)
    | ((with_reducible apply sel_no); (focus kernel_rfl!); kernel_rfl!)
    | ((with_reducible apply sel_in); (focus kernel_rfl!); kernel_rfl!)
    | kernel_rfl!
    | exact rfl
  k_with "my val" => first
    | ((with_reducible show Val _ _ _ _ _ _ _ _ (PySem.Expr.Name _ _) _); first
      | ((with_reducible apply val_local); (focus exact rfl); (focus exact rfl); (focus exact rfl); (focus exact rfl); decide)
      | ((with_reducible apply val_cell); (focus exact rfl); (focus exact rfl); (focus k_extra "my mem"); (focus k_asm); (focus exact rfl); (focus exact rfl); decide))
    | ((with_reducible show Val _ _ _ _ _ _ _ _ (PySem.Expr.Subscript _ _ _) _); (with_reducible apply val_item); (focus k_extra "my val"); (focus k_extra "my mem"); (focus (refine And.intro ?_ ?_; decide; exact rfl)); exact rfl)
    | ((with_reducible show Val _ _ _ _ _ _ _ _ (PySem.Expr.Subscript _ (PySem.Expr.Constant (PySem.Const.int 0) _ _) _) _); (with_reducible apply val_head); (focus k_extra "my val"); (focus with_reducible assumption); k_extra "my mem")
    | ((with_reducible show Val _ _ _ _ _ _ _ _ (PySem.Expr.Compare _ [PySem.CmpOp.Eq] _ _) _); (with_reducible apply val_eq); (focus k_extra "my val"); k_extra "my bool")
    | ((with_reducible show ValH _ _ _ _ _ _ _ _ (PySem.Expr.Compare _ [PySem.CmpOp.In] _ _) _); (with_reducible apply val_in); (focus k_extra "my val"); (focus exact rfl); (focus exact Nat.le_of_ble_eq_true rfl); k_extra "my bool")
  k_with "my tst" => first
    | ((with_reducible show Tst _ _ _ _ _ _ _ _ (PySem.Expr.Compare _ [PySem.CmpOp.In] _ _) _); (with_reducible apply tst_in); (focus k_extra "my val"); (focus exact rfl); (focus exact Nat.le_of_ble_eq_true rfl); k_extra "my bool")
    | ((with_reducible show Tst _ _ _ _ _ _ _ _ (PySem.Expr.Compare _ [PySem.CmpOp.Eq] [PySem.Expr.Constant _ _ _] _) _); (with_reducible apply tst_eq); (focus k_extra "my val"); k_extra "my bool")
    | ((with_reducible show Tst _ _ _ _ _ _ _ _ (PySem.Expr.Compare _ [PySem.CmpOp.NotEq] [PySem.Expr.Constant _ _ _] _) _); first
      | ((with_reducible apply tst_ne_f); (focus k_extra "my val"); k_extra "my bool")
      | ((with_reducible apply tst_ne_t); (focus k_extra "my val"); k_extra "my bool"))
    | ((with_reducible show Tst _ _ _ _ _ _ _ _ (PySem.Expr.Compare _ [PySem.CmpOp.Eq] [PySem.Expr.Name _ _] _) _); (with_reducible apply tst_eqb); (focus k_extra "my val"); (focus k_extra "my val"); exact rfl)
    | ((with_reducible show Tst _ _ _ _ _ _ _ _ (PySem.Expr.BoolOp _ _ _) _); first
      | ((with_reducible apply tst_or_no); (focus k_extra "my tst"); k_extra "my tst")
      | ((with_reducible apply tst_or_yes); k_extra "my tst"))
    | ((with_reducible show Tst _ _ _ _ _ _ _ _ (PySem.Expr.Name _ _) _); (with_reducible apply tst_val); (focus k_extra "my val"); intro _; rfl)
  k_with "execs cons If" => (k_here; k_dflt ((rename Fr _ _ _ _ => kF); (rename News _ _ _ _ => kN); first
    | (apply skip_use kF kN; (focus ((with_reducible apply skip_cons); (focus k_extra "my tst"); k_extra "my skip")); intro h' tk' F' N'; k_sweep)
    | ((with_reducible show wpAny _ _ (execs (PySem.Stmt.If _ [PySem.Stmt.Return (some _) _] _ _ :: _) _) _ _ _); refine s_yes kF kN ?_ ?_; (focus k_extra "my tst"); intro h' tk' F' N'; k_sweep)
    | (refine s_yes2 kF kN ?_ ?_; (focus k_extra "my tst"); intro h' tk' F' N'; k_sweep)))
  k_with "execs cons Return" => (k_here; with_reducible refine s_ret ?_)
  k_with "execs cons Assign" => (k_here; (with_reducible show wpAny _ _ (execs (PySem.Stmt.Assign [PySem.Expr.Name _ _] (PySem.Expr.Subscript _ (PySem.Expr.Constant _ _ _) _) _ :: _) _) _ _ _); k_dflt ((with_reducible apply s_let); (focus exact rfl); (focus k_asm); (focus k_asm); (focus k_extra "my val"); (focus exact rfl); (focus exact rfl); (focus exact rfl); intro h' tk' F' N'; k_sweep))
  k_with "ite" => first
    | (k_dflt (refine ite_pos ?_ ?_; (focus decide)))
    | (k_dflt (refine ite_neg ?_ ?_; (focus decide)))
    | (with_reducible refine ite_dec ?_ ?_ <;> intro _)
  k_with "eval Subscript" => (k_here; (with_reducible show wpAny _ _ (eval (PySem.Expr.Subscript _ (PySem.Expr.Constant _ _ _) _) _) _ _ _); k_dflt ((rename Fr _ _ _ _ => kF); (rename News _ _ _ _ => kN); apply e_val kF kN; (focus k_extra "my val"); intro tk'))
  k_with "eval Compare" => (k_here; k_dflt ((rename Fr _ _ _ _ => kF); (rename News _ _ _ _ => kN); first
    | ((with_reducible show wpAny _ _ (eval (PySem.Expr.Compare _ [PySem.CmpOp.In] _ _) _) _ _ _); apply e_valH kF kN; (focus k_extra "my val"); intro h' tk' F' N'; k_sweep)
    | (apply e_val kF kN; (focus k_extra "my val"); intro tk')))
  k_with "eval IfExp" => (k_here; k_dflt ((rename Fr _ _ _ _ => kF); (rename News _ _ _ _ => kN); first
    | ((with_reducible show wpAny _ _ (eval (PySem.Expr.IfExp _ (PySem.Expr.Constant (PySem.Const.str _) _ _) (PySem.Expr.Constant (PySem.Const.str _) _ _) _) _) _ _ _); apply e_sel kF kN; (focus k_extra "my tst"); intro h' tk' t' F' N'; k_sweep)
    | (refine e_no kF kN ?_ ?_; (focus k_extra "my tst"); intro h' tk' F' N'; k_sweep)
    | (refine e_yes kF kN ?_ ?_; (focus k_extra "my tst"); intro h' tk' F' N'; k_sweep)
    | (refine' e_if kF kN ?_ ?_ ?_; rotate_left; (focus k_extra "my tst"); (intro hc h' tk' F' N'; k_sweep); rotate_left; (intro hc h' tk' F' N'; k_sweep))))
  k_with "my val" => first
    | ((with_reducible show Val _ _ _ _ _ _ _ (compEnvC _ _ _ _) (PySem.Expr.Name _ _) _); first
      | ((with_reducible apply val_own); (focus k_extra "my mem"); (focus with_reducible assumption); (focus with_reducible assumption); (focus exact rfl); (focus exact rfl); decide)
      | ((with_reducible apply val_free); (focus exact rfl); (focus k_extra "my mem"); (focus k_asm); (focus exact rfl); (focus exact rfl); decide))
    | ((with_reducible show Val _ _ _ _ _ _ _ _ (PySem.Expr.UnaryOp _ _ _) _); (with_reducible apply val_not); k_extra "my val")
    | (with_reducible exact val_bool)
  k_with "my fn" => first
    | ((with_reducible show Val _ _ _ _ _ _ _ (compEnvC _ _ _ _) _ _); (with_reducible apply val_globC); (focus k_asm); (focus k_asm); (focus k_is); (focus exact rfl); (focus exact rfl); (focus exact rfl); decide)
    | ((with_reducible apply val_glob); (focus exact rfl); (focus k_asm); (focus k_asm); (focus k_is); (focus exact rfl); (focus exact rfl); decide)
  k_with "my arg" => first
    | (with_reducible exact arg_int)
    | (with_reducible exact arg_str)
    | ((with_reducible show Arg _ _ _ _ _ _ _ _ (PySem.Expr.BinOp _ _ _ _) _); (with_reducible apply arg_sub); k_extra "my val")
    | ((with_reducible apply arg_val); k_extra "my val")
  k_with "eval Call" => (k_here; k_dflt ((rename Fr _ _ _ _ => kF); (rename News _ _ _ _ => kN); first
    | ((with_reducible show wpAny _ _ (eval (PySem.Expr.Call (PySem.Expr.Name _ _) [_] [] _) _) _ _ _); apply e_call1 kF kN; (focus k_asm); (focus k_extra "my fn"); (focus k_is); (focus k_extra "my arg"); (focus exact rfl); (focus exact rfl); intro tk' t')
    | ((with_reducible show wpAny _ _ (eval (PySem.Expr.Call (PySem.Expr.Name _ _) [_, _] [] _) _) _ _ _); apply e_call2 kF kN; (focus k_asm); (focus k_extra "my fn"); (focus k_is); (focus k_extra "my arg"); (focus k_extra "my arg"); (focus exact rfl); (focus exact rfl); (focus exact rfl); (focus exact rfl); intro tk' t' u')
    | ((with_reducible show wpAny _ _ (eval (PySem.Expr.Call (PySem.Expr.Name _ _) [_, _, _] [] _) _) _ _ _); apply e_call3 kF kN; (focus k_asm); (focus k_extra "my fn"); (focus k_is); (focus k_extra "my arg"); (focus k_extra "my arg"); (focus k_extra "my arg"); (focus exact rfl); (focus exact rfl); (focus exact rfl); (focus exact rfl); (focus exact rfl); intro tk' t' u' v')))
  k_with "CompEnd" => (k_extra "my split"; k_dflt ((with_reducible apply comp_end); (focus k_asm); (focus k_asm); (focus k_extra "my mem"); (focus k_extra "my mem"); (focus k_extra "my mem"); (focus k_extra "my cut"); (focus (first | exact trivial | ((with_reducible apply src_at); k_extra "my mem") | k_extra "my mem"))))
  k_with "TupSrc" => (k_here; k_dflt ((with_reducible apply TupSrc.ledger); (focus exact rfl); (focus k_asm); (focus k_asm); (focus k_extra "my mem"); (focus (first | exact Nat.le_of_ble_eq_true rfl | size_fits)); intro g'; lcg_lit))
  k_with "subscriptTail" => (k_here; (with_reducible show wpAny _ _ (subscriptTail _ _ (Value.ref _) (Value.int _ _)) _ _ _); k_dflt ((with_reducible apply item_tupleT); (focus ((with_reducible apply News.isTup); (focus k_asm); k_extra "my mem")); (focus decide); (focus decide); (focus exact rfl); (focus exact rfl); k_whole))
  k_with "call ref" => (k_dflt (apply use_P; (focus k_asm); (focus k_asm); (focus k_asm); (focus k_asm); (focus k_asm); (focus (first | exact rfl | assumption)); (focus (apply PRel.mk; (focus with_reducible assumption); (first | (with_reducible assumption) | exact hP | exact (plain_con hP).1 | exact (plain_con hP).2))); (focus (apply IH; (apply plus10; k_extra "my less"))); (focus k_extra "my sub"); (focus (apply room1 (size := plSize); (focus with_reducible assumption); (apply plus10; k_extra "my less"))); (focus (apply units1 (size := plSize); (focus with_reducible assumption); (apply plus10; k_extra "my less"))); intro r9 tl9 h9 tk9 F9 N9 hl9 ho9; (try simp only [List.forall_mem_cons, List.forall_mem_append] at hl9); (try simp only [List.nil_append, List.cons_append] at N9); (simp only [plOut] at ho9; subst ho9); (try dsimp only); (try k_fold)))
  k_with "eval ListComp" => (k_here; k_dflt (apply lct_tuple; (focus k_asm); (focus with_unfolding_all rfl); (focus decide); (focus rfl); (focus decide); (focus rfl); rotate_left; (focus (intro _; rfl))))
  k_with "my open size" => ((with_reducible rename (_ + plSize _ < recursionLimit) => hdO); (with_reducible rename (_ + 8 * plSize _ < cLine) => huO); (have hzO := open_size hdO huO (Nat.le_refl 11)); clear hdO huO; (refine Exists.elim hzO ?_); clear hzO; intro z hz; k_extra "my split")
  k_with "TupSrcT" => (k_here; k_dflt ((with_reducible apply TupSrcT.ledger); (focus exact rfl); (focus k_asm); (focus k_asm); (focus k_extra "my mem"); (focus exact Nat.le_of_ble_eq_true rfl); intro g'; lct_lit))
  k_with "compareOp Eq ref ref" => (k_here; k_dflt ((with_reducible apply eq_nil); (focus k_asm); (focus k_extra "my mem"); (focus k_extra "my mem"); (focus ((try simp only [plSize, Form.size] at *); ktr_units)); k_whole))
  refine wpAny_call ?_
  k_dflt ktr_enter
  cases hF
  case' imp => cases hP
  case' iff => cases hP
  case' not => (rename_i a8 t8 n8 f8 hm8 hF8; cases hF8; all_goals (try (cases hP; done)))
  case' tf => k_extra "my open size"
  case' con0 => k_extra "my open size"
  all_goals (
    k_extra "my walk"
    all_goals (
      k_extra "my split"
      k_dflt (apply leave_P (Out := plOut); (focus exact hret); (focus k_asm); (focus k_asm); (focus k_extra "my ends"))
      first | exact rfl | exact congrArg Value.bool (sel_in (by kernel_rfl!) (by kernel_rfl!))))
end Mine
namespace Mine
theorem draw_ok (w : World) (mean : ExcName → Option Value) (mg mb : Str → Option Value) : DrawOk w mean mg mb := by
  unfold DrawOk
  k_fill
  intro dp un gd cn cs a ccd cl outer A₀ base h₀ L m news s wide tw Q E lc fd o k c tk tc xs ns xn B F X N ho hsy hoff T hk hlc hI hxl hw0 hw1 hk0 hk1 hd hu hret
  k_with_none
  k_with "my enter" => first
    | (refine' code_def ?k1_en0 ?k2_en0 ?k3_en0 ?k4_en0 ?k5_en0 ?kA_en0 ?kF_en0 ?kK_en0 ?k6_en0 ?k7_en0 ?k8_en0 ?k9_en0 ?kB_en0 ?_ ?c2_en0 ?c3_en0 ?c4_en0 ?c5_en0; (case kA_en0 => exact rfl); (case kF_en0 => exact rfl); (case kK_en0 => first | exact rfl | assumption); (case k1_en0 => k_asm); (case k2_en0 => k_asm); (case k3_en0 => k_asm); (case k4_en0 => k_asm); (case k5_en0 => k_asm); (case k6_en0 => k_is); (case k7_en0 => k_is); (case k8_en0 => ktr_room); (case k9_en0 => exact BindsTo.of_eq rfl); (case c5_en0 => decide); (case kB_en0 => exact locs rfl); (case c2_en0 => exact rfl); (case c3_en0 => exact rfl); (case c4_en0 => exact rfl); k_whole; intro g' L' h' FG' F' N' B' X' T'; (try dsimp only); (try k_fold))
    | (refine' code_defC ?k1_en1 ?k2_en1 ?k3_en1 ?k4_en1 ?k5_en1 ?kA_en1 ?kF_en1 ?kK_en1 ?k6_en1 ?k7_en1 ?k8_en1 ?k9_en1 ?kB_en1 ?kD_en1 ?_ ?c2_en1 ?c3_en1 ?c4_en1; (case kA_en1 => exact rfl); (case kF_en1 => exact rfl); (case kK_en1 => first | exact rfl | assumption); (case k1_en1 => k_asm); (case k2_en1 => k_asm); (case k3_en1 => k_asm); (case k4_en1 => k_asm); (case k5_en1 => k_asm); (case k6_en1 => k_is); (case k7_en1 => k_is); (case k8_en1 => ktr_room); (case k9_en1 => exact BindsTo.of_eq rfl); (case kB_en1 => exact rfl); (case kD_en1 => decide +kernel); (case c2_en1 => exact rfl); (case c3_en1 => exact rfl); (case c4_en1 => exact rfl); k_whole; intro g' L' h' tk' cells' FG' F' N' Y' B' X' T' l1; (try k_lt l1); (first | (refine cells1 Y' N' ?_; clear Y' N' cells'; intro o1' N' d1') | (refine cells2 Y' N' ?_; clear Y' N' cells'; intro o1' o2' N' d1' d2') | (refine cells3 Y' N' ?_; clear Y' N' cells'; intro o1' o2' o3' N' d1' d2' d3') | (refine cells4 Y' N' ?_; clear Y' N' cells'; intro o1' o2' o3' o4' N' d1' d2' d3' d4')); (repeat ((with_reducible rename (Obj.data _ = Data.cell (bindC _ _ _ _)) => hcl1); (first | (have hcl2 : Obj.data _ = Data.cell (some _) := hcl1) | (have hcl2 : Obj.data _ = Data.cell none := hcl1)); clear hcl1)); (try dsimp only); (try k_fold))
  k_with "my mem" => first
    | (with_reducible assumption)
    | (with_reducible exact List.mem_cons_self)
    | ((with_reducible refine mem_head ?_); exact rfl)
    | ((with_reducible refine List.mem_cons_of_mem _ ?_); k_extra "my mem")
    | ((with_reducible apply Sub.mem); (with_reducible assumption); (with_reducible assumption))
    | ((with_reducible refine List.mem_append.mpr (Or.inl ?_)); k_extra "my mem")
    | ((with_reducible refine List.mem_append.mpr (Or.inr ?_)); k_extra "my mem")
  k_with "my clean" => (repeat ((with_reducible rename (@Ne Nat _ _) => hNe); clear hNe))
  k_with "my split" => (repeat ((with_reducible rename (_ ∧ _) => hAnd); first | ((with_reducible refine (fun hAnd1 hAnd2 hAnd3 hAnd4 hAnd5 hAnd6 hAnd7 hAnd8 hAnd9 hAnd10 hAnd11 hAndR => ?_) (hAnd.1) (hAnd.2.1) (hAnd.2.2.1) (hAnd.2.2.2.1) (hAnd.2.2.2.2.1) (hAnd.2.2.2.2.2.1) (hAnd.2.2.2.2.2.2.1) (hAnd.2.2.2.2.2.2.2.1) (hAnd.2.2.2.2.2.2.2.2.1) (hAnd.2.2.2.2.2.2.2.2.2.1) (hAnd.2.2.2.2.2.2.2.2.2.2.1) (hAnd.2.2.2.2.2.2.2.2.2.2.2)); clear hAnd) | ((with_reducible refine (fun hAnd1 hAnd2 hAnd3 hAnd4 hAnd5 hAnd6 hAnd7 hAndR => ?_) (hAnd.1) (hAnd.2.1) (hAnd.2.2.1) (hAnd.2.2.2.1) (hAnd.2.2.2.2.1) (hAnd.2.2.2.2.2.1) (hAnd.2.2.2.2.2.2.1) (hAnd.2.2.2.2.2.2.2)); clear hAnd) | ((with_reducible refine (fun hAnd1 hAnd2 hAnd3 hAnd4 hAndR => ?_) (hAnd.1) (hAnd.2.1) (hAnd.2.2.1) (hAnd.2.2.2.1) (hAnd.2.2.2.2)); clear hAnd) | ((with_reducible refine (fun hAnd1 hAnd2 hAndR => ?_) (hAnd.1) (hAnd.2.1) (hAnd.2.2)); clear hAnd) | (have hAnd1 := And.left hAnd; have hAnd2 := And.right hAnd; clear hAnd)))
  k_with "my sub" => first
    | (with_reducible exact Sub.refl)
    | (with_reducible assumption)
    | (with_reducible exact Sub.nil)
    | (with_reducible refine Sub.app ?_ ?_ <;> k_extra "my sub")
    | ((with_reducible refine Sub.one ?_ ?_); k_extra "my mem"; k_extra "my sub")
    | ((with_reducible refine Sub.cons ?_); k_extra "my sub")
    | ((with_reducible refine Sub.left ?_); k_extra "my sub")
    | ((with_reducible refine Sub.right ?_); k_extra "my sub")
  k_with "my lt" => first
    | (with_reducible assumption)
    | ((with_reducible refine allLt_of ?_); with_reducible assumption)
    | ((with_reducible apply allLt_app); with_reducible assumption)
    | ((with_reducible apply allLt_app); with_reducible apply allLt_app; with_reducible assumption)
    | ((with_reducible apply allLt_app); with_reducible apply allLt_app; with_reducible apply allLt_app; with_reducible assumption)
    | ((with_reducible apply allLt_app); with_reducible apply allLt_app; with_reducible apply allLt_app; with_reducible apply allLt_app; with_reducible assumption)
    | ((with_reducible apply allLt_app); with_reducible apply allLt_app; with_reducible apply allLt_app; with_reducible apply allLt_app; with_reducible apply allLt_app; with_reducible assumption)
    | ((with_reducible apply allLt_app); with_reducible apply allLt_app; with_reducible apply allLt_app; with_reducible apply allLt_app; with_reducible apply allLt_app; with_reducible apply allLt_app; with_reducible assumption)
    | ((with_reducible apply allLt_app); with_reducible apply allLt_app; with_reducible apply allLt_app; with_reducible apply allLt_app; with_reducible apply allLt_app; with_reducible apply allLt_app; with_reducible apply allLt_app; with_reducible assumption)
  k_with "my ends" => first
    | (with_reducible exact Ends.base)
    | ((with_reducible apply Ends.app); with_reducible assumption)
    | ((with_reducible apply Ends.appR); (focus k_extra "my ends"); with_reducible assumption)
    | ((with_reducible apply Ends.cons); (focus k_extra "my lt"); k_extra "my ends")
    | ((with_reducible apply Ends.skip); k_extra "my ends")
  k_with "my ne" => first
    | (with_reducible assumption)
    | ((with_reducible refine Nat.ne_of_gt ?_); with_reducible assumption)
    | ((with_reducible refine Nat.ne_of_lt ?_); with_reducible assumption)
    | ((with_reducible refine Ne.symm ?_); with_reducible assumption)
    | ((with_reducible refine ne_up1 ?_); with_reducible assumption)
    | ((with_reducible refine ne_up2 ?_); with_reducible assumption)
    | ((with_reducible refine ne_up3 ?_); with_reducible assumption)
  k_with "my kne" => ((refine neN ?_); (try dsimp only); first
    | (k_extra "my ne")
    | exact Nat.ne_of_lt (Nat.lt_succ_self _)
    | exact Nat.ne_of_gt (Nat.lt_succ_self _)
    | exact Nat.ne_of_lt (Nat.lt_succ_of_lt (Nat.lt_succ_self _))
    | exact Nat.ne_of_gt (Nat.lt_succ_of_lt (Nat.lt_succ_self _))
    | ((refine Nat.ne_of_gt (Nat.lt_of_succ_lt ?_)); with_reducible assumption)
    | ((refine Nat.ne_of_gt (Nat.lt_of_succ_lt (Nat.lt_of_succ_lt ?_))); with_reducible assumption))
  k_with "my off" => first
    | (with_reducible assumption)
    | (with_reducible refine off3_lt ?_ ?_ ?_ <;> with_reducible assumption)
    | (with_reducible refine off3_app ?_ ?_ <;> k_extra "my off")
  k_with "my cut" => first
    | ((with_reducible apply Cut.skipI); k_extra "my cut")
    | ((with_reducible apply Cut.skipC); k_extra "my cut")
    | ((with_reducible apply Cut.skipD); k_extra "my cut")
    | ((with_reducible apply Cut.cons); (focus k_extra "my ne"); (focus k_extra "my ne"); (focus k_extra "my ne"); k_extra "my cut")
    | ((with_reducible apply Cut.base); k_extra "my off")
    | ((with_reducible apply Cut.skip); k_extra "my cut")
  k_with "my off1" => first
    | (with_reducible assumption)
    | ((with_reducible refine off1_lt ?_); with_reducible assumption)
    | (with_reducible refine off1_app ?_ ?_ <;> k_extra "my off1")
  k_with "my rel" => first
    | (with_reducible assumption)
    | ((with_reducible apply FIn.mono); (with_reducible assumption); k_extra "my sub")
    | ((with_reducible apply RelIn.mono); (with_reducible assumption); k_extra "my sub")
    | ((with_reducible apply VarIn.mono); (with_reducible assumption); k_extra "my sub")
    | ((with_reducible apply DecsIn.mono); (with_reducible assumption); k_extra "my sub")
    | ((with_reducible apply RelIn.mk); (focus k_extra "my mem"); (refine And.intro ?_ ?_ <;> with_reducible assumption))
    | ((with_reducible apply VarIn.mk); k_extra "my mem")
    | (with_reducible exact DecsIn.nil)
    | ((with_reducible apply DecsIn.cons); (focus ((with_reducible apply DecIn.at); (focus k_extra "my mem"); (focus (k_extra "my clean"; omega)); k_extra "my rel")); k_extra "my rel")
  k_with "my less" => first
    | exact Nat.lt_succ_self _
    | exact Nat.lt_succ_of_le (Nat.le_max_left _ _)
    | exact Nat.lt_succ_of_le (Nat.le_max_right _ _)
  k_with "my fin" => first
    | (k_extra "my rel")
    | ((with_reducible apply FIn.tf); k_extra "my mem")
    | ((with_reducible apply FIn.not); (focus k_extra "my mem"); k_extra "my fin")
    | ((with_reducible apply FIn.con0); (focus k_extra "my mem"); k_extra "my mem")
    | ((with_reducible apply FIn.con1); (focus k_extra "my mem"); (focus k_extra "my mem"); k_extra "my fin")
    | ((with_reducible apply FIn.con2); (focus k_extra "my mem"); (focus k_extra "my mem"); (focus k_extra "my fin"); k_extra "my fin")
    | ((with_reducible apply FIn.imp); (focus k_extra "my mem"); (focus k_extra "my fin"); k_extra "my fin")
    | ((with_reducible apply FIn.iff); (focus k_extra "my mem"); (focus k_extra "my fin"); k_extra "my fin")
    | ((with_reducible apply FIn.qu); (focus k_extra "my mem"); (focus k_extra "my mem"); (focus k_extra "my rel"); k_extra "my fin")
    | ((with_reducible apply FIn.some); (focus k_extra "my mem"); k_extra "my rel")
    | ((with_reducible apply FIn.inn); (focus k_extra "my mem"); (focus k_extra "my rel"); k_extra "my rel")
  k_with "my skip" => first
    | ((with_reducible apply skip_cons); (focus k_extra "my tst"); k_extra "my skip")
    | (with_reducible exact skip_nil)
  k_with "my walk" => (repeat' ((fail_if_success (with_reducible show LeaveK h₀ _ _ _ _ _ _)); first | ((fail_if_success (fail_if_success (with_reducible show wpAny _ _ (eval _ (compEnvC _ _ _ _)) (LCg.CompEnd _ _ _ _ _ _ _ _ _ _ _ _) _ _))); k_fold) | (k_unfold; (try dsimp only)) | walk1 | (dsimp only; walk1)))
  k_with "my steps" => (repeat' (first | ((fail_if_success (fail_if_success (with_reducible show wpAny _ _ (eval _ (compEnvC _ _ _ _)) (LCg.CompEnd _ _ _ _ _ _ _ _ _ _ _ _) _ _))); k_fold) | (k_unfold; (try dsimp only)) | walk1 | (dsimp only; walk1)))
  k_with "my bool" => first
    | ((with_reducible apply sel_one); (focus kernel_rfl!); kernel_rfl!)
    | ((with_reducible apply sel_two); (focus kernel_rfl!); kernel_rfl!)
    | ((with_reducible apply sel_no); (focus kernel_rfl!); kernel_rfl!)
    | ((with_reducible apply sel_in); (focus kernel_rfl!); kernel_rfl!)
    | kernel_rfl!
    | exact rfl
  k_with "my val" => first
    | ((with_reducible show Val _ _ _ _ _ _ _ _ (PySem.Expr.Name _ _) _); first
      | ((with_reducible apply val_local); (focus exact rfl); (focus exact rfl); (focus exact rfl); (focus exact rfl); decide)
      | ((with_reducible apply val_cell); (focus exact rfl); (focus exact rfl); (focus k_extra "my mem"); (focus k_asm); (focus exact rfl); (focus exact rfl); decide))
    | ((with_reducible show Val _ _ _ _ _ _ _ _ (PySem.Expr.Subscript _ _ _) _); (with_reducible apply val_item); (focus k_extra "my val"); (focus k_extra "my mem"); (focus (refine And.intro ?_ ?_; decide; exact rfl)); exact rfl)
    | ((with_reducible show Val _ _ _ _ _ _ _ _ (PySem.Expr.Subscript _ (PySem.Expr.Constant (PySem.Const.int 0) _ _) _) _); (with_reducible apply val_head); (focus k_extra "my val"); (focus with_reducible assumption); k_extra "my mem")
    | ((with_reducible show Val _ _ _ _ _ _ _ _ (PySem.Expr.Compare _ [PySem.CmpOp.Eq] _ _) _); (with_reducible apply val_eq); (focus k_extra "my val"); k_extra "my bool")
    | ((with_reducible show ValH _ _ _ _ _ _ _ _ (PySem.Expr.Compare _ [PySem.CmpOp.In] _ _) _); (with_reducible apply val_in); (focus k_extra "my val"); (focus exact rfl); (focus exact Nat.le_of_ble_eq_true rfl); k_extra "my bool")
  k_with "my tst" => first
    | ((with_reducible show Tst _ _ _ _ _ _ _ _ (PySem.Expr.Compare _ [PySem.CmpOp.In] _ _) _); (with_reducible apply tst_in); (focus k_extra "my val"); (focus exact rfl); (focus exact Nat.le_of_ble_eq_true rfl); k_extra "my bool")
    | ((with_reducible show Tst _ _ _ _ _ _ _ _ (PySem.Expr.Compare _ [PySem.CmpOp.Eq] [PySem.Expr.Constant _ _ _] _) _); (with_reducible apply tst_eq); (focus k_extra "my val"); k_extra "my bool")
    | ((with_reducible show Tst _ _ _ _ _ _ _ _ (PySem.Expr.Compare _ [PySem.CmpOp.NotEq] [PySem.Expr.Constant _ _ _] _) _); first
      | ((with_reducible apply tst_ne_f); (focus k_extra "my val"); k_extra "my bool")
      | ((with_reducible apply tst_ne_t); (focus k_extra "my val"); k_extra "my bool"))
    | ((with_reducible show Tst _ _ _ _ _ _ _ _ (PySem.Expr.Compare _ [PySem.CmpOp.Eq] [PySem.Expr.Name _ _] _) _); (with_reducible apply tst_eqb); (focus k_extra "my val"); (focus k_extra "my val"); exact rfl)
    | ((with_reducible show Tst _ _ _ _ _ _ _ _ (PySem.Expr.BoolOp _ _ _) _); first
      | ((with_reducible apply tst_or_no); (focus k_extra "my tst"); k_extra "my tst")
      | ((with_reducible apply tst_or_yes); k_extra "my tst"))
    | ((with_reducible show Tst _ _ _ _ _ _ _ _ (PySem.Expr.Name _ _) _); (with_reducible apply tst_val); (focus k_extra "my val"); intro _; rfl)
  k_with "execs cons If" => (k_here; k_dflt ((rename Fr _ _ _ _ => kF); (rename News _ _ _ _ => kN); first
    | (apply skip_use kF kN; (focus ((with_reducible apply skip_cons); (focus k_extra "my tst"); k_extra "my skip")); intro h' tk' F' N'; k_sweep)
    | ((with_reducible show wpAny _ _ (execs (PySem.Stmt.If _ [PySem.Stmt.Return (some _) _] _ _ :: _) _) _ _ _); refine s_yes kF kN ?_ ?_; (focus k_extra "my tst"); intro h' tk' F' N'; k_sweep)
    | (refine s_yes2 kF kN ?_ ?_; (focus k_extra "my tst"); intro h' tk' F' N'; k_sweep)))
  k_with "execs cons Return" => (k_here; with_reducible refine s_ret ?_)
  k_with "execs cons Assign" => (k_here; (with_reducible show wpAny _ _ (execs (PySem.Stmt.Assign [PySem.Expr.Name _ _] (PySem.Expr.Subscript _ (PySem.Expr.Constant _ _ _) _) _ :: _) _) _ _ _); k_dflt ((with_reducible apply s_let); (focus exact rfl); (focus k_asm); (focus k_asm); (focus k_extra "my val"); (focus exact rfl); (focus exact rfl); (focus exact rfl); intro h' tk' F' N'; k_sweep))
  k_with "ite" => first
    | (k_dflt (refine ite_pos ?_ ?_; (focus decide)))
    | (k_dflt (refine ite_neg ?_ ?_; (focus decide)))
    | (with_reducible refine ite_dec ?_ ?_ <;> intro _)
  k_with "eval Subscript" => (k_here; (with_reducible show wpAny _ _ (eval (PySem.Expr.Subscript _ (PySem.Expr.Constant _ _ _) _) _) _ _ _); k_dflt ((rename Fr _ _ _ _ => kF); (rename News _ _ _ _ => kN); apply e_val kF kN; (focus k_extra "my val"); intro tk'))
  k_with "eval Compare" => (k_here; k_dflt ((rename Fr _ _ _ _ => kF); (rename News _ _ _ _ => kN); first
    | ((with_reducible show wpAny _ _ (eval (PySem.Expr.Compare _ [PySem.CmpOp.In] _ _) _) _ _ _); apply e_valH kF kN; (focus k_extra "my val"); intro h' tk' F' N'; k_sweep)
    | (apply e_val kF kN; (focus k_extra "my val"); intro tk')))
  k_with "eval IfExp" => (k_here; k_dflt ((rename Fr _ _ _ _ => kF); (rename News _ _ _ _ => kN); first
    | ((with_reducible show wpAny _ _ (eval (PySem.Expr.IfExp _ (PySem.Expr.Constant (PySem.Const.str _) _ _) (PySem.Expr.Constant (PySem.Const.str _) _ _) _) _) _ _ _); apply e_sel kF kN; (focus k_extra "my tst"); intro h' tk' t' F' N'; k_sweep)
    | (refine e_no kF kN ?_ ?_; (focus k_extra "my tst"); intro h' tk' F' N'; k_sweep)
    | (refine e_yes kF kN ?_ ?_; (focus k_extra "my tst"); intro h' tk' F' N'; k_sweep)
    | (refine' e_if kF kN ?_ ?_ ?_; rotate_left; (focus k_extra "my tst"); (intro hc h' tk' F' N'; k_sweep); rotate_left; (intro hc h' tk' F' N'; k_sweep))))
  k_with "my val" => first
    | ((with_reducible show Val _ _ _ _ _ _ _ (compEnvC _ _ _ _) (PySem.Expr.Name _ _) _); first
      | ((with_reducible apply val_own); (focus k_extra "my mem"); (focus with_reducible assumption); (focus with_reducible assumption); (focus exact rfl); (focus exact rfl); decide)
      | ((with_reducible apply val_free); (focus exact rfl); (focus k_extra "my mem"); (focus k_asm); (focus exact rfl); (focus exact rfl); decide))
    | ((with_reducible show Val _ _ _ _ _ _ _ _ (PySem.Expr.UnaryOp _ _ _) _); (with_reducible apply val_not); k_extra "my val")
    | (with_reducible exact val_bool)
  k_with "my fn" => first
    | ((with_reducible show Val _ _ _ _ _ _ _ (compEnvC _ _ _ _) _ _); (with_reducible apply val_globC); (focus k_asm); (focus k_asm); (focus k_is); (focus exact rfl); (focus exact rfl); (focus exact rfl); decide)
    | ((with_reducible apply val_glob); (focus exact rfl); (focus k_asm); (focus k_asm); (focus k_is); (focus exact rfl); (focus exact rfl); decide)
  k_with "my arg" => first
    | (with_reducible exact arg_int)
    | (with_reducible exact arg_str)
    | ((with_reducible show Arg _ _ _ _ _ _ _ _ (PySem.Expr.BinOp _ _ _ _) _); (with_reducible apply arg_sub); k_extra "my val")
    | ((with_reducible apply arg_val); k_extra "my val")
  k_with "eval Call" => (k_here; k_dflt ((rename Fr _ _ _ _ => kF); (rename News _ _ _ _ => kN); first
    | ((with_reducible show wpAny _ _ (eval (PySem.Expr.Call (PySem.Expr.Name _ _) [_] [] _) _) _ _ _); apply e_call1 kF kN; (focus k_asm); (focus k_extra "my fn"); (focus k_is); (focus k_extra "my arg"); (focus exact rfl); (focus exact rfl); intro tk' t')
    | ((with_reducible show wpAny _ _ (eval (PySem.Expr.Call (PySem.Expr.Name _ _) [_, _] [] _) _) _ _ _); apply e_call2 kF kN; (focus k_asm); (focus k_extra "my fn"); (focus k_is); (focus k_extra "my arg"); (focus k_extra "my arg"); (focus exact rfl); (focus exact rfl); (focus exact rfl); (focus exact rfl); intro tk' t' u')
    | ((with_reducible show wpAny _ _ (eval (PySem.Expr.Call (PySem.Expr.Name _ _) [_, _, _] [] _) _) _ _ _); apply e_call3 kF kN; (focus k_asm); (focus k_extra "my fn"); (focus k_is); (focus k_extra "my arg"); (focus k_extra "my arg"); (focus k_extra "my arg"); (focus exact rfl); (focus exact rfl); (focus exact rfl); (focus exact rfl); (focus exact rfl); intro tk' t' u' v')))
  k_with "CompEnd" => (k_extra "my split"; k_dflt ((with_reducible apply comp_end); (focus k_asm); (focus k_asm); (focus k_extra "my mem"); (focus k_extra "my mem"); (focus k_extra "my mem"); (focus k_extra "my cut"); (focus (first | exact trivial | ((with_reducible apply src_at); k_extra "my mem") | k_extra "my mem"))))
  k_with "TupSrc" => (k_here; k_dflt ((with_reducible apply TupSrc.ledger); (focus exact rfl); (focus k_asm); (focus k_asm); (focus k_extra "my mem"); (focus (first | exact Nat.le_of_ble_eq_true rfl | size_fits)); intro g'; lcg_lit))
  k_with "subscriptTail" => (k_here; (with_reducible show wpAny _ _ (subscriptTail _ _ (Value.ref _) (Value.int _ _)) _ _ _); k_dflt ((with_reducible apply item_tupleT); (focus ((with_reducible apply News.isTup); (focus k_asm); k_extra "my mem")); (focus decide); (focus decide); (focus exact rfl); (focus exact rfl); k_whole))
  k_with "my cut1" => first
    | ((with_reducible apply Cut1.skip); k_extra "my cut1")
    | ((with_reducible apply Cut1.cons); (focus k_extra "my ne"); k_extra "my cut1")
    | ((with_reducible apply Cut1.base); k_extra "my off1")
  k_with "my above" => first
    | (with_reducible assumption)
    | (with_reducible exact above_nil)
    | ((with_reducible refine above_cons ?_ ?_); (focus with_reducible assumption); k_extra "my above")
    | ((with_reducible refine above_app ?_ ?_) <;> k_extra "my above")
  k_with "my arith" => first
    | (with_reducible assumption)
    | (k_extra "my clean"; omega)
  k_with "call builtin:len" => (k_here; (with_reducible show wpAny _ _ (call (Value.builtin "len") [Value.ref _]) _ _ _); k_dflt ((with_reducible apply len_list); (focus (apply News.isList; (focus k_asm); k_extra "my mem")); (focus (simp only [List.size_toArray, List.length_cons, List.length_nil]; omega)); k_whole); (try simp only [List.size_toArray]))
  k_with "subscriptTail" => (k_here; (with_reducible show wpAny _ _ (subscriptTail _ _ (Value.ref _) (Value.int _ _)) _ _ _); (with_reducible rename IntsAre _ _ => hInt); (have hLen := IntsAre.length hInt); k_dflt (refine' item_list_intsR ?ml hInt ?m0 ?m1 ?m2 ?_; (case ml => (apply News.isList; (focus k_asm); k_extra "my mem")); (case m0 => omega); (case m1 => omega); (case m2 => omega); k_whole); intro t')
  refine wpAny_call ?_
  k_dflt ktr_enter
  k_extra "my steps"
  all_goals (
    k_extra "my split"
    k_dflt (apply hret; (focus k_asm); (focus k_asm); (focus with_reducible assumption); (focus exact Int.fmod_nonneg_of_pos _ hw0); exact Int.fmod_lt_of_pos _ hw0))
end Mine
namespace Mine
theorem atom_ok (w : World) (mean : ExcName → Option Value) (mg mb : Str → Option Value) (d : Nat) :
    Mut w mean mg mb 228 ARel atomSize atomCost atomOut d := by
  have hDraw := draw_ok w mean mg mb
  unfold Mut
  k_fill
  intro dp un gd cn cs a ccd cl outer A₀ base h₀ L m news nr s vs Q E lc fd o k c tk tc xs ns xn B F X N ho hsy hoff T hk hs hlc hI hxl hk0 hk1 hc0 hc1 hR hd hu hret
  cases hR
  rename_i v hN hn
  cases hN
  rename_i vsn kn hvm hvs
  simp only [atomCost] at hk1 hc1
  simp only [atomSize] at hd hu
  k_with_none
  k_with "my enter" => first
    | (refine' code_def ?k1_en0 ?k2_en0 ?k3_en0 ?k4_en0 ?k5_en0 ?kA_en0 ?kF_en0 ?kK_en0 ?k6_en0 ?k7_en0 ?k8_en0 ?k9_en0 ?kB_en0 ?_ ?c2_en0 ?c3_en0 ?c4_en0 ?c5_en0; (case kA_en0 => exact rfl); (case kF_en0 => exact rfl); (case kK_en0 => first | exact rfl | assumption); (case k1_en0 => k_asm); (case k2_en0 => k_asm); (case k3_en0 => k_asm); (case k4_en0 => k_asm); (case k5_en0 => k_asm); (case k6_en0 => k_is); (case k7_en0 => k_is); (case k8_en0 => ktr_room); (case k9_en0 => exact BindsTo.of_eq rfl); (case c5_en0 => decide); (case kB_en0 => exact locs rfl); (case c2_en0 => exact rfl); (case c3_en0 => exact rfl); (case c4_en0 => exact rfl); k_whole; intro g' L' h' FG' F' N' B' X' T'; (try dsimp only); (try k_fold))
    | (refine' code_defC ?k1_en1 ?k2_en1 ?k3_en1 ?k4_en1 ?k5_en1 ?kA_en1 ?kF_en1 ?kK_en1 ?k6_en1 ?k7_en1 ?k8_en1 ?k9_en1 ?kB_en1 ?kD_en1 ?_ ?c2_en1 ?c3_en1 ?c4_en1; (case kA_en1 => exact rfl); (case kF_en1 => exact rfl); (case kK_en1 => first | exact rfl | assumption); (case k1_en1 => k_asm); (case k2_en1 => k_asm); (case k3_en1 => k_asm); (case k4_en1 => k_asm); (case k5_en1 => k_asm); (case k6_en1 => k_is); (case k7_en1 => k_is); (case k8_en1 => ktr_room); (case k9_en1 => exact BindsTo.of_eq rfl); (case kB_en1 => exact rfl); (case kD_en1 => decide +kernel); (case c2_en1 => exact rfl); (case c3_en1 => exact rfl); (case c4_en1 => exact rfl); k_whole; intro g' L' h' tk' cells' FG' F' N' Y' B' X' T' l1; (try k_lt l1); (first | (refine cells1 Y' N' ?_; clear Y' N' cells'; intro o1' N' d1') | (refine cells2 Y' N' ?_; clear Y' N' cells'; intro o1' o2' N' d1' d2') | (refine cells3 Y' N' ?_; clear Y' N' cells'; intro o1' o2' o3' N' d1' d2' d3') | (refine cells4 Y' N' ?_; clear Y' N' cells'; intro o1' o2' o3' o4' N' d1' d2' d3' d4')); (repeat ((with_reducible rename (Obj.data _ = Data.cell (bindC _ _ _ _)) => hcl1); (first | (have hcl2 : Obj.data _ = Data.cell (some _) := hcl1) | (have hcl2 : Obj.data _ = Data.cell none := hcl1)); clear hcl1)); (try dsimp only); (try k_fold))
  k_with "my mem" => first
    | (with_reducible assumption)
    | (with_reducible exact List.mem_cons_self)
    | ((with_reducible refine mem_head ?_); exact rfl)
    | ((with_reducible refine List.mem_cons_of_mem _ ?_); k_extra "my mem")
    | ((with_reducible apply Sub.mem); (with_reducible assumption); (with_reducible assumption))
    | ((with_reducible refine List.mem_append.mpr (Or.inl ?_)); k_extra "my mem")
    | ((with_reducible refine List.mem_append.mpr (Or.inr ?_)); k_extra "my mem")
  k_with "my clean" => (repeat ((with_reducible rename (@Ne Nat _ _) => hNe); clear hNe))
  k_with "my split" => (repeat ((with_reducible rename (_ ∧ _) => hAnd); first | ((with_reducible refine (fun hAnd1 hAnd2 hAnd3 hAnd4 hAnd5 hAnd6 hAnd7 hAnd8 hAnd9 hAnd10 hAnd11 hAndR => ?_) (hAnd.1) (hAnd.2.1) (hAnd.2.2.1) (hAnd.2.2.2.1) (hAnd.2.2.2.2.1) (hAnd.2.2.2.2.2.1) (hAnd.2.2.2.2.2.2.1) (hAnd.2.2.2.2.2.2.2.1) (hAnd.2.2.2.2.2.2.2.2.1) (hAnd.2.2.2.2.2.2.2.2.2.1) (hAnd.2.2.2.2.2.2.2.2.2.2.1) (hAnd.2.2.2.2.2.2.2.2.2.2.2)); clear hAnd) | ((with_reducible refine (fun hAnd1 hAnd2 hAnd3 hAnd4 hAnd5 hAnd6 hAnd7 hAndR => ?_) (hAnd.1) (hAnd.2.1) (hAnd.2.2.1) (hAnd.2.2.2.1) (hAnd.2.2.2.2.1) (hAnd.2.2.2.2.2.1) (hAnd.2.2.2.2.2.2.1) (hAnd.2.2.2.2.2.2.2)); clear hAnd) | ((with_reducible refine (fun hAnd1 hAnd2 hAnd3 hAnd4 hAndR => ?_) (hAnd.1) (hAnd.2.1) (hAnd.2.2.1) (hAnd.2.2.2.1) (hAnd.2.2.2.2)); clear hAnd) | ((with_reducible refine (fun hAnd1 hAnd2 hAndR => ?_) (hAnd.1) (hAnd.2.1) (hAnd.2.2)); clear hAnd) | (have hAnd1 := And.left hAnd; have hAnd2 := And.right hAnd; clear hAnd)))
  k_with "my sub" => first
    | (with_reducible exact Sub.refl)
    | (with_reducible assumption)
    | (with_reducible exact Sub.nil)
    | (with_reducible refine Sub.app ?_ ?_ <;> k_extra "my sub")
    | ((with_reducible refine Sub.one ?_ ?_); k_extra "my mem"; k_extra "my sub")
    | ((with_reducible refine Sub.cons ?_); k_extra "my sub")
    | ((with_reducible refine Sub.left ?_); k_extra "my sub")
    | ((with_reducible refine Sub.right ?_); k_extra "my sub")
  k_with "my lt" => first
    | (with_reducible assumption)
    | ((with_reducible refine allLt_of ?_); with_reducible assumption)
    | ((with_reducible apply allLt_app); with_reducible assumption)
    | ((with_reducible apply allLt_app); with_reducible apply allLt_app; with_reducible assumption)
    | ((with_reducible apply allLt_app); with_reducible apply allLt_app; with_reducible apply allLt_app; with_reducible assumption)
    | ((with_reducible apply allLt_app); with_reducible apply allLt_app; with_reducible apply allLt_app; with_reducible apply allLt_app; with_reducible assumption)
    | ((with_reducible apply allLt_app); with_reducible apply allLt_app; with_reducible apply allLt_app; with_reducible apply allLt_app; with_reducible apply allLt_app; with_reducible assumption)
    | ((with_reducible apply allLt_app); with_reducible apply allLt_app; with_reducible apply allLt_app; with_reducible apply allLt_app; with_reducible apply allLt_app; with_reducible apply allLt_app; with_reducible assumption)
    | ((with_reducible apply allLt_app); with_reducible apply allLt_app; with_reducible apply allLt_app; with_reducible apply allLt_app; with_reducible apply allLt_app; with_reducible apply allLt_app; with_reducible apply allLt_app; with_reducible assumption)
  k_with "my ends" => first
    | (with_reducible exact Ends.base)
    | ((with_reducible apply Ends.app); with_reducible assumption)
    | ((with_reducible apply Ends.appR); (focus k_extra "my ends"); with_reducible assumption)
    | ((with_reducible apply Ends.cons); (focus k_extra "my lt"); k_extra "my ends")
    | ((with_reducible apply Ends.skip); k_extra "my ends")
  k_with "my ne" => first
    | (with_reducible assumption)
    | ((with_reducible refine Nat.ne_of_gt ?_); with_reducible assumption)
    | ((with_reducible refine Nat.ne_of_lt ?_); with_reducible assumption)
    | ((with_reducible refine Ne.symm ?_); with_reducible assumption)
    | ((with_reducible refine ne_up1 ?_); with_reducible assumption)
    | ((with_reducible refine ne_up2 ?_); with_reducible assumption)
    | ((with_reducible refine ne_up3 ?_); with_reducible assumption)
  k_with "my kne" => ((refine neN ?_); (try dsimp only); first
    | (k_extra "my ne")
    | exact Nat.ne_of_lt (Nat.lt_succ_self _)
    | exact Nat.ne_of_gt (Nat.lt_succ_self _)
    | exact Nat.ne_of_lt (Nat.lt_succ_of_lt (Nat.lt_succ_self _))
    | exact Nat.ne_of_gt (Nat.lt_succ_of_lt (Nat.lt_succ_self _))
    | ((refine Nat.ne_of_gt (Nat.lt_of_succ_lt ?_)); with_reducible assumption)
    | ((refine Nat.ne_of_gt (Nat.lt_of_succ_lt (Nat.lt_of_succ_lt ?_))); with_reducible assumption))
  k_with "my off" => first
    | (with_reducible assumption)
    | (with_reducible refine off3_lt ?_ ?_ ?_ <;> with_reducible assumption)
    | (with_reducible refine off3_app ?_ ?_ <;> k_extra "my off")
  k_with "my cut" => first
    | ((with_reducible apply Cut.skipI); k_extra "my cut")
    | ((with_reducible apply Cut.skipC); k_extra "my cut")
    | ((with_reducible apply Cut.skipD); k_extra "my cut")
    | ((with_reducible apply Cut.cons); (focus k_extra "my ne"); (focus k_extra "my ne"); (focus k_extra "my ne"); k_extra "my cut")
    | ((with_reducible apply Cut.base); k_extra "my off")
    | ((with_reducible apply Cut.skip); k_extra "my cut")
  k_with "my off1" => first
    | (with_reducible assumption)
    | ((with_reducible refine off1_lt ?_); with_reducible assumption)
    | (with_reducible refine off1_app ?_ ?_ <;> k_extra "my off1")
  k_with "my rel" => first
    | (with_reducible assumption)
    | ((with_reducible apply FIn.mono); (with_reducible assumption); k_extra "my sub")
    | ((with_reducible apply RelIn.mono); (with_reducible assumption); k_extra "my sub")
    | ((with_reducible apply VarIn.mono); (with_reducible assumption); k_extra "my sub")
    | ((with_reducible apply DecsIn.mono); (with_reducible assumption); k_extra "my sub")
    | ((with_reducible apply RelIn.mk); (focus k_extra "my mem"); (refine And.intro ?_ ?_ <;> with_reducible assumption))
    | ((with_reducible apply VarIn.mk); k_extra "my mem")
    | (with_reducible exact DecsIn.nil)
    | ((with_reducible apply DecsIn.cons); (focus ((with_reducible apply DecIn.at); (focus k_extra "my mem"); (focus (k_extra "my clean"; omega)); k_extra "my rel")); k_extra "my rel")
  k_with "my less" => first
    | exact Nat.lt_succ_self _
    | exact Nat.lt_succ_of_le (Nat.le_max_left _ _)
    | exact Nat.lt_succ_of_le (Nat.le_max_right _ _)
  k_with "my fin" => first
    | (k_extra "my rel")
    | ((with_reducible apply FIn.tf); k_extra "my mem")
    | ((with_reducible apply FIn.not); (focus k_extra "my mem"); k_extra "my fin")
    | ((with_reducible apply FIn.con0); (focus k_extra "my mem"); k_extra "my mem")
    | ((with_reducible apply FIn.con1); (focus k_extra "my mem"); (focus k_extra "my mem"); k_extra "my fin")
    | ((with_reducible apply FIn.con2); (focus k_extra "my mem"); (focus k_extra "my mem"); (focus k_extra "my fin"); k_extra "my fin")
    | ((with_reducible apply FIn.imp); (focus k_extra "my mem"); (focus k_extra "my fin"); k_extra "my fin")
    | ((with_reducible apply FIn.iff); (focus k_extra "my mem"); (focus k_extra "my fin"); k_extra "my fin")
    | ((with_reducible apply FIn.qu); (focus k_extra "my mem"); (focus k_extra "my mem"); (focus k_extra "my rel"); k_extra "my fin")
    | ((with_reducible apply FIn.some); (focus k_extra "my mem"); k_extra "my rel")
    | ((with_reducible apply FIn.inn); (focus k_extra "my mem"); (focus k_extra "my rel"); k_extra "my rel")
  k_with "my skip" => first
    | ((with_reducible apply skip_cons); (focus k_extra "my tst"); k_extra "my skip")
    | (with_reducible exact skip_nil)
  k_with "my walk" => (repeat' ((fail_if_success (with_reducible show LeaveK h₀ _ _ _ _ _ _)); first | ((fail_if_success (fail_if_success (with_reducible show wpAny _ _ (eval _ (compEnvC _ _ _ _)) (LCg.CompEnd _ _ _ _ _ _ _ _ _ _ _ _) _ _))); k_fold) | (k_unfold; (try dsimp only)) | walk1 | (dsimp only; walk1)))
  k_with "my steps" => (repeat' (first | ((fail_if_success (fail_if_success (with_reducible show wpAny _ _ (eval _ (compEnvC _ _ _ _)) (LCg.CompEnd _ _ _ _ _ _ _ _ _ _ _ _) _ _))); k_fold) | (k_unfold; (try dsimp only)) | walk1 | (dsimp only; walk1)))
  k_with "my bool" => first
    | ((with_reducible apply sel_one); (focus kernel_rfl!); kernel_rfl!)
    | ((with_reducible apply sel_two); (focus kernel_rfl!); kernel_rfl!)
    | ((with_reducible apply sel_no); (focus kernel_rfl!); kernel_rfl!)
    | ((with_reducible apply sel_in); (focus kernel_rfl!); kernel_rfl!)
    | kernel_rfl!
    | exact rfl
  k_with "my val" => first
    | ((with_reducible show Val _ _ _ _ _ _ _ _ (PySem.Expr.Name _ _) _); first
      | ((with_reducible apply val_local); (focus exact rfl); (focus exact rfl); (focus exact rfl); (focus exact rfl); decide)
      | ((with_reducible apply val_cell); (focus exact rfl); (focus exact rfl); (focus k_extra "my mem"); (focus k_asm); (focus exact rfl); (focus exact rfl); decide))
    | ((with_reducible show Val _ _ _ _ _ _ _ _ (PySem.Expr.Subscript _ _ _) _); (with_reducible apply val_item); (focus k_extra "my val"); (focus k_extra "my mem"); (focus (refine And.intro ?_ ?_; decide; exact rfl)); exact rfl)
    | ((with_reducible show Val _ _ _ _ _ _ _ _ (PySem.Expr.Subscript _ (PySem.Expr.Constant (PySem.Const.int 0) _ _) _) _); (with_reducible apply val_head); (focus k_extra "my val"); (focus with_reducible assumption); k_extra "my mem")
    | ((with_reducible show Val _ _ _ _ _ _ _ _ (PySem.Expr.Compare _ [PySem.CmpOp.Eq] _ _) _); (with_reducible apply val_eq); (focus k_extra "my val"); k_extra "my bool")
    | ((with_reducible show ValH _ _ _ _ _ _ _ _ (PySem.Expr.Compare _ [PySem.CmpOp.In] _ _) _); (with_reducible apply val_in); (focus k_extra "my val"); (focus exact rfl); (focus exact Nat.le_of_ble_eq_true rfl); k_extra "my bool")
  k_with "my tst" => first
    | ((with_reducible show Tst _ _ _ _ _ _ _ _ (PySem.Expr.Compare _ [PySem.CmpOp.In] _ _) _); (with_reducible apply tst_in); (focus k_extra "my val"); (focus exact rfl); (focus exact Nat.le_of_ble_eq_true rfl); k_extra "my bool")
    | ((with_reducible show Tst _ _ _ _ _ _ _ _ (PySem.Expr.Compare _ [PySem.CmpOp.Eq] [PySem.Expr.Constant _ _ _] _) _); (with_reducible apply tst_eq); (focus k_extra "my val"); k_extra "my bool")
    | ((with_reducible show Tst _ _ _ _ _ _ _ _ (PySem.Expr.Compare _ [PySem.CmpOp.NotEq] [PySem.Expr.Constant _ _ _] _) _); first
      | ((with_reducible apply tst_ne_f); (focus k_extra "my val"); k_extra "my bool")
      | ((with_reducible apply tst_ne_t); (focus k_extra "my val"); k_extra "my bool"))
    | ((with_reducible show Tst _ _ _ _ _ _ _ _ (PySem.Expr.Compare _ [PySem.CmpOp.Eq] [PySem.Expr.Name _ _] _) _); (with_reducible apply tst_eqb); (focus k_extra "my val"); (focus k_extra "my val"); exact rfl)
    | ((with_reducible show Tst _ _ _ _ _ _ _ _ (PySem.Expr.BoolOp _ _ _) _); first
      | ((with_reducible apply tst_or_no); (focus k_extra "my tst"); k_extra "my tst")
      | ((with_reducible apply tst_or_yes); k_extra "my tst"))
    | ((with_reducible show Tst _ _ _ _ _ _ _ _ (PySem.Expr.Name _ _) _); (with_reducible apply tst_val); (focus k_extra "my val"); intro _; rfl)
  k_with "execs cons If" => (k_here; k_dflt ((rename Fr _ _ _ _ => kF); (rename News _ _ _ _ => kN); first
    | (apply skip_use kF kN; (focus ((with_reducible apply skip_cons); (focus k_extra "my tst"); k_extra "my skip")); intro h' tk' F' N'; k_sweep)
    | ((with_reducible show wpAny _ _ (execs (PySem.Stmt.If _ [PySem.Stmt.Return (some _) _] _ _ :: _) _) _ _ _); refine s_yes kF kN ?_ ?_; (focus k_extra "my tst"); intro h' tk' F' N'; k_sweep)
    | (refine s_yes2 kF kN ?_ ?_; (focus k_extra "my tst"); intro h' tk' F' N'; k_sweep)))
  k_with "execs cons Return" => (k_here; with_reducible refine s_ret ?_)
  k_with "execs cons Assign" => (k_here; (with_reducible show wpAny _ _ (execs (PySem.Stmt.Assign [PySem.Expr.Name _ _] (PySem.Expr.Subscript _ (PySem.Expr.Constant _ _ _) _) _ :: _) _) _ _ _); k_dflt ((with_reducible apply s_let); (focus exact rfl); (focus k_asm); (focus k_asm); (focus k_extra "my val"); (focus exact rfl); (focus exact rfl); (focus exact rfl); intro h' tk' F' N'; k_sweep))
  k_with "ite" => first
    | (k_dflt (refine ite_pos ?_ ?_; (focus decide)))
    | (k_dflt (refine ite_neg ?_ ?_; (focus decide)))
    | (with_reducible refine ite_dec ?_ ?_ <;> intro _)
  k_with "eval Subscript" => (k_here; (with_reducible show wpAny _ _ (eval (PySem.Expr.Subscript _ (PySem.Expr.Constant _ _ _) _) _) _ _ _); k_dflt ((rename Fr _ _ _ _ => kF); (rename News _ _ _ _ => kN); apply e_val kF kN; (focus k_extra "my val"); intro tk'))
  k_with "eval Compare" => (k_here; k_dflt ((rename Fr _ _ _ _ => kF); (rename News _ _ _ _ => kN); first
    | ((with_reducible show wpAny _ _ (eval (PySem.Expr.Compare _ [PySem.CmpOp.In] _ _) _) _ _ _); apply e_valH kF kN; (focus k_extra "my val"); intro h' tk' F' N'; k_sweep)
    | (apply e_val kF kN; (focus k_extra "my val"); intro tk')))
  k_with "eval IfExp" => (k_here; k_dflt ((rename Fr _ _ _ _ => kF); (rename News _ _ _ _ => kN); first
    | ((with_reducible show wpAny _ _ (eval (PySem.Expr.IfExp _ (PySem.Expr.Constant (PySem.Const.str _) _ _) (PySem.Expr.Constant (PySem.Const.str _) _ _) _) _) _ _ _); apply e_sel kF kN; (focus k_extra "my tst"); intro h' tk' t' F' N'; k_sweep)
    | (refine e_no kF kN ?_ ?_; (focus k_extra "my tst"); intro h' tk' F' N'; k_sweep)
    | (refine e_yes kF kN ?_ ?_; (focus k_extra "my tst"); intro h' tk' F' N'; k_sweep)
    | (refine' e_if kF kN ?_ ?_ ?_; rotate_left; (focus k_extra "my tst"); (intro hc h' tk' F' N'; k_sweep); rotate_left; (intro hc h' tk' F' N'; k_sweep))))
  k_with "my val" => first
    | ((with_reducible show Val _ _ _ _ _ _ _ (compEnvC _ _ _ _) (PySem.Expr.Name _ _) _); first
      | ((with_reducible apply val_own); (focus k_extra "my mem"); (focus with_reducible assumption); (focus with_reducible assumption); (focus exact rfl); (focus exact rfl); decide)
      | ((with_reducible apply val_free); (focus exact rfl); (focus k_extra "my mem"); (focus k_asm); (focus exact rfl); (focus exact rfl); decide))
    | ((with_reducible show Val _ _ _ _ _ _ _ _ (PySem.Expr.UnaryOp _ _ _) _); (with_reducible apply val_not); k_extra "my val")
    | (with_reducible exact val_bool)
  k_with "my fn" => first
    | ((with_reducible show Val _ _ _ _ _ _ _ (compEnvC _ _ _ _) _ _); (with_reducible apply val_globC); (focus k_asm); (focus k_asm); (focus k_is); (focus exact rfl); (focus exact rfl); (focus exact rfl); decide)
    | ((with_reducible apply val_glob); (focus exact rfl); (focus k_asm); (focus k_asm); (focus k_is); (focus exact rfl); (focus exact rfl); decide)
  k_with "my arg" => first
    | (with_reducible exact arg_int)
    | (with_reducible exact arg_str)
    | ((with_reducible show Arg _ _ _ _ _ _ _ _ (PySem.Expr.BinOp _ _ _ _) _); (with_reducible apply arg_sub); k_extra "my val")
    | ((with_reducible apply arg_val); k_extra "my val")
  k_with "eval Call" => (k_here; k_dflt ((rename Fr _ _ _ _ => kF); (rename News _ _ _ _ => kN); first
    | ((with_reducible show wpAny _ _ (eval (PySem.Expr.Call (PySem.Expr.Name _ _) [_] [] _) _) _ _ _); apply e_call1 kF kN; (focus k_asm); (focus k_extra "my fn"); (focus k_is); (focus k_extra "my arg"); (focus exact rfl); (focus exact rfl); intro tk' t')
    | ((with_reducible show wpAny _ _ (eval (PySem.Expr.Call (PySem.Expr.Name _ _) [_, _] [] _) _) _ _ _); apply e_call2 kF kN; (focus k_asm); (focus k_extra "my fn"); (focus k_is); (focus k_extra "my arg"); (focus k_extra "my arg"); (focus exact rfl); (focus exact rfl); (focus exact rfl); (focus exact rfl); intro tk' t' u')
    | ((with_reducible show wpAny _ _ (eval (PySem.Expr.Call (PySem.Expr.Name _ _) [_, _, _] [] _) _) _ _ _); apply e_call3 kF kN; (focus k_asm); (focus k_extra "my fn"); (focus k_is); (focus k_extra "my arg"); (focus k_extra "my arg"); (focus k_extra "my arg"); (focus exact rfl); (focus exact rfl); (focus exact rfl); (focus exact rfl); (focus exact rfl); intro tk' t' u' v')))
  k_with "CompEnd" => (k_extra "my split"; k_dflt ((with_reducible apply comp_end); (focus k_asm); (focus k_asm); (focus k_extra "my mem"); (focus k_extra "my mem"); (focus k_extra "my mem"); (focus k_extra "my cut"); (focus (first | exact trivial | ((with_reducible apply src_at); k_extra "my mem") | k_extra "my mem"))))
  k_with "TupSrc" => (k_here; k_dflt ((with_reducible apply TupSrc.ledger); (focus exact rfl); (focus k_asm); (focus k_asm); (focus k_extra "my mem"); (focus (first | exact Nat.le_of_ble_eq_true rfl | size_fits)); intro g'; lcg_lit))
  k_with "subscriptTail" => (k_here; (with_reducible show wpAny _ _ (subscriptTail _ _ (Value.ref _) (Value.int _ _)) _ _ _); k_dflt ((with_reducible apply item_tupleT); (focus ((with_reducible apply News.isTup); (focus k_asm); k_extra "my mem")); (focus decide); (focus decide); (focus exact rfl); (focus exact rfl); k_whole))
  k_with "my cut1" => first
    | ((with_reducible apply Cut1.skip); k_extra "my cut1")
    | ((with_reducible apply Cut1.cons); (focus k_extra "my ne"); k_extra "my cut1")
    | ((with_reducible apply Cut1.base); k_extra "my off1")
  k_with "my above" => first
    | (with_reducible assumption)
    | (with_reducible exact above_nil)
    | ((with_reducible refine above_cons ?_ ?_); (focus with_reducible assumption); k_extra "my above")
    | ((with_reducible refine above_app ?_ ?_) <;> k_extra "my above")
  k_with "my arith" => first
    | (with_reducible assumption)
    | (k_extra "my clean"; omega)
  k_with "compareOp Eq ref ref" => (k_here; k_dflt ((with_reducible apply names_nil); (focus k_asm); (focus k_extra "my mem"); (focus exact hvs); (focus exact hn); (focus k_extra "my mem"); (focus (k_extra "my clean"; ktr_units)); k_whole))
  k_with "call builtin:len" => (k_here; (with_reducible show wpAny _ _ (call (Value.builtin "len") [Value.ref _]) _ _ _); (have hLen9 := StrsAre.length hvs); (rw [names_length] at hLen9); k_dflt ((with_reducible apply len_list); (focus (apply News.isList; (focus k_asm); k_extra "my mem")); (focus (k_extra "my clean"; simp only [List.size_toArray]; omega)); k_whole); (try simp only [List.size_toArray, hLen9]))
  k_with "subscriptTail Name BinOp ref int" => (k_here; (with_reducible show wpAny _ _ (subscriptTail _ _ (Value.ref _) (Value.int _ _)) _ _ _); k_dflt ((with_reducible apply item_name); (focus k_asm); (focus k_extra "my mem"); (focus exact hvs); (focus exact hn); (focus with_reducible assumption); (focus decide); k_whole); intro j9 t9 hj9)
  k_with "call ref" => k_extra "my split"; first
    | ((with_reducible show wpAny _ _ (call _ [_, Value.int 3 _]) _ _ _); (k_dflt ((apply use_draw); (focus exact hDraw); (focus k_asm); (focus k_asm); (focus k_asm); (focus k_asm); (focus with_reducible assumption); (focus k_extra "my mem"); (focus with_reducible assumption); (focus k_extra "my cut1"); (focus k_asm); (focus (first | exact rfl | assumption)); (focus with_reducible assumption); (focus k_extra "my mem"); (focus with_reducible assumption); (focus decide); (focus decide); (focus k_extra "my arith"); (focus k_extra "my arith"); (focus (exact room2 (dp := dp) (a := 1) hd (Nat.le_of_ble_eq_true rfl))); (focus (exact units2 (un := un) (a := 1) hu (Nat.le_of_ble_eq_true rfl))); intro x9 t9 h9 tk9 o9 tk9' tc9' F9 N9 hd9 x90 x91; (try simp only [List.nil_append, List.cons_append] at N9); (try dsimp only); (try k_fold))); (refine idx3 x90 x91 ?_ ?_ ?_ <;> intro e9 <;> subst e9))
    | (k_dflt ((apply use_draw); (focus exact hDraw); (focus k_asm); (focus k_asm); (focus k_asm); (focus k_asm); (focus with_reducible assumption); (focus k_extra "my mem"); (focus with_reducible assumption); (focus k_extra "my cut1"); (focus k_asm); (focus (first | exact rfl | assumption)); (focus with_reducible assumption); (focus k_extra "my mem"); (focus with_reducible assumption); (focus decide); (focus decide); (focus k_extra "my arith"); (focus k_extra "my arith"); (focus (exact room2 (dp := dp) (a := 1) hd (Nat.le_of_ble_eq_true rfl))); (focus (exact units2 (un := un) (a := 1) hu (Nat.le_of_ble_eq_true rfl))); intro x9 t9 h9 tk9 o9 tk9' tc9' F9 N9 hd9 x90 x91; (try simp only [List.nil_append, List.cons_append] at N9); (try dsimp only); (try k_fold)))
  refine wpAny_call ?_
  k_dflt ktr_enter
  k_extra "my steps"
  all_goals (
    k_extra "my split"; k_extra "my clean"
    k_dflt (apply ret_M hret; (focus k_asm); (focus k_asm); (focus with_reducible assumption); (focus k_extra "my mem"); (focus k_extra "my ends"); (focus k_extra "my above"); (focus omega); (focus (simp only [atomCost]; omega)); (focus omega); (focus (simp only [atomCost]; omega)))
    first
      | (refine' ⟨.some _, ?_, Nat.le_refl 1, trivial⟩; rotate_left; k_extra "my fin")
      | (refine' ⟨.inn _ _, ?_, Nat.le_refl 1, ?_⟩; rotate_left; rotate_left; (focus k_extra "my fin"); exact hj9)
      | (refine ⟨.tf true, ?_, Nat.le_refl 1, trivial⟩; k_extra "my fin")
      | (refine ⟨.tf false, ?_, Nat.le_refl 1, trivial⟩; k_extra "my fin"))
end Mine
namespace Mine
theorem drawn_ok (w : World) (mean : ExcName → Option Value) (mg mb : Str → Option Value) (q : Nat × Nat) :
    Mut w mean mg mb 233 DnRel drawnSize drawnCost drawnOut q := by
  have hDraw := draw_ok w mean mg mb
  have hAtom := atom_ok w mean mg mb
  have hFill : heap = heap ∧ PySem.Challenge.rw_rr0087_01 = PySem.Challenge.rw_rr0087_01 := by
    k_fill
    exact ⟨rfl, rfl⟩
  clear hFill
  revert q
  refine mut_of fun q IH => ?_
  intro dp un gd cn cs a ccd cl outer A₀ base h₀ L m news nr s vs Q E lc fd o k c tk tc xs ns xn B F X N ho hsy hoff T hk hs hlc hI hxl hk0 hk1 hc0 hc1 hR hd hu hret
  cases hR
  rename_i v n d x t hN hx hn
  have hN' := hN
  cases hN'
  rename_i vsn kn hvm hvs
  cases d
  case zero =>
    subst hx
    simp only [drawnCost, costD] at hk1 hc1
    k_with_none
    k_with "my enter" => first
      | (refine' code_def ?k1_en0 ?k2_en0 ?k3_en0 ?k4_en0 ?k5_en0 ?kA_en0 ?kF_en0 ?kK_en0 ?k6_en0 ?k7_en0 ?k8_en0 ?k9_en0 ?kB_en0 ?_ ?c2_en0 ?c3_en0 ?c4_en0 ?c5_en0; (case kA_en0 => exact rfl); (case kF_en0 => exact rfl); (case kK_en0 => first | exact rfl | assumption); (case k1_en0 => k_asm); (case k2_en0 => k_asm); (case k3_en0 => k_asm); (case k4_en0 => k_asm); (case k5_en0 => k_asm); (case k6_en0 => k_is); (case k7_en0 => k_is); (case k8_en0 => ktr_room); (case k9_en0 => exact BindsTo.of_eq rfl); (case c5_en0 => decide); (case kB_en0 => exact locs rfl); (case c2_en0 => exact rfl); (case c3_en0 => exact rfl); (case c4_en0 => exact rfl); k_whole; intro g' L' h' FG' F' N' B' X' T'; (try dsimp only); (try k_fold))
      | (refine' code_defC ?k1_en1 ?k2_en1 ?k3_en1 ?k4_en1 ?k5_en1 ?kA_en1 ?kF_en1 ?kK_en1 ?k6_en1 ?k7_en1 ?k8_en1 ?k9_en1 ?kB_en1 ?kD_en1 ?_ ?c2_en1 ?c3_en1 ?c4_en1; (case kA_en1 => exact rfl); (case kF_en1 => exact rfl); (case kK_en1 => first | exact rfl | assumption); (case k1_en1 => k_asm); (case k2_en1 => k_asm); (case k3_en1 => k_asm); (case k4_en1 => k_asm); (case k5_en1 => k_asm); (case k6_en1 => k_is); (case k7_en1 => k_is); (case k8_en1 => ktr_room); (case k9_en1 => exact BindsTo.of_eq rfl); (case kB_en1 => exact rfl); (case kD_en1 => decide +kernel); (case c2_en1 => exact rfl); (case c3_en1 => exact rfl); (case c4_en1 => exact rfl); k_whole; intro g' L' h' tk' cells' FG' F' N' Y' B' X' T' l1; (try k_lt l1); (first | (refine cells1 Y' N' ?_; clear Y' N' cells'; intro o1' N' d1') | (refine cells2 Y' N' ?_; clear Y' N' cells'; intro o1' o2' N' d1' d2') | (refine cells3 Y' N' ?_; clear Y' N' cells'; intro o1' o2' o3' N' d1' d2' d3') | (refine cells4 Y' N' ?_; clear Y' N' cells'; intro o1' o2' o3' o4' N' d1' d2' d3' d4')); (repeat ((with_reducible rename (Obj.data _ = Data.cell (bindC _ _ _ _)) => hcl1); (first | (have hcl2 : Obj.data _ = Data.cell (some _) := hcl1) | (have hcl2 : Obj.data _ = Data.cell none := hcl1)); clear hcl1)); (try dsimp only); (try k_fold))
    k_with "my mem" => first
      | (with_reducible assumption)
      | (with_reducible exact List.mem_cons_self)
      | ((with_reducible refine mem_head ?_); exact rfl)
      | ((with_reducible refine List.mem_cons_of_mem _ ?_); k_extra "my mem")
      | ((with_reducible apply Sub.mem); (with_reducible assumption); (with_reducible assumption))
      | ((with_reducible refine List.mem_append.mpr (Or.inl ?_)); k_extra "my mem")
      | ((with_reducible refine List.mem_append.mpr (Or.inr ?_)); k_extra "my mem")
    k_with "my clean" => (repeat ((with_reducible rename (@Ne Nat _ _) => hNe); clear hNe))
    k_with "my split" => (repeat ((with_reducible rename (_ ∧ _) => hAnd); first | ((with_reducible refine (fun hAnd1 hAnd2 hAnd3 hAnd4 hAnd5 hAnd6 hAnd7 hAnd8 hAnd9 hAnd10 hAnd11 hAndR => ?_) (hAnd.1) (hAnd.2.1) (hAnd.2.2.1) (hAnd.2.2.2.1) (hAnd.2.2.2.2.1) (hAnd.2.2.2.2.2.1) (hAnd.2.2.2.2.2.2.1) (hAnd.2.2.2.2.2.2.2.1) (hAnd.2.2.2.2.2.2.2.2.1) (hAnd.2.2.2.2.2.2.2.2.2.1) (hAnd.2.2.2.2.2.2.2.2.2.2.1) (hAnd.2.2.2.2.2.2.2.2.2.2.2)); clear hAnd) | ((with_reducible refine (fun hAnd1 hAnd2 hAnd3 hAnd4 hAnd5 hAnd6 hAnd7 hAndR => ?_) (hAnd.1) (hAnd.2.1) (hAnd.2.2.1) (hAnd.2.2.2.1) (hAnd.2.2.2.2.1) (hAnd.2.2.2.2.2.1) (hAnd.2.2.2.2.2.2.1) (hAnd.2.2.2.2.2.2.2)); clear hAnd) | ((with_reducible refine (fun hAnd1 hAnd2 hAnd3 hAnd4 hAndR => ?_) (hAnd.1) (hAnd.2.1) (hAnd.2.2.1) (hAnd.2.2.2.1) (hAnd.2.2.2.2)); clear hAnd) | ((with_reducible refine (fun hAnd1 hAnd2 hAndR => ?_) (hAnd.1) (hAnd.2.1) (hAnd.2.2)); clear hAnd) | (have hAnd1 := And.left hAnd; have hAnd2 := And.right hAnd; clear hAnd)))
    k_with "my sub" => first
      | (with_reducible exact Sub.refl)
      | (with_reducible assumption)
      | (with_reducible exact Sub.nil)
      | (with_reducible refine Sub.app ?_ ?_ <;> k_extra "my sub")
      | ((with_reducible refine Sub.one ?_ ?_); k_extra "my mem"; k_extra "my sub")
      | ((with_reducible refine Sub.cons ?_); k_extra "my sub")
      | ((with_reducible refine Sub.left ?_); k_extra "my sub")
      | ((with_reducible refine Sub.right ?_); k_extra "my sub")
    k_with "my lt" => first
      | (with_reducible assumption)
      | ((with_reducible refine allLt_of ?_); with_reducible assumption)
      | ((with_reducible apply allLt_app); with_reducible assumption)
      | ((with_reducible apply allLt_app); with_reducible apply allLt_app; with_reducible assumption)
      | ((with_reducible apply allLt_app); with_reducible apply allLt_app; with_reducible apply allLt_app; with_reducible assumption)
      | ((with_reducible apply allLt_app); with_reducible apply allLt_app; with_reducible apply allLt_app; with_reducible apply allLt_app; with_reducible assumption)
      | ((with_reducible apply allLt_app); with_reducible apply allLt_app; with_reducible apply allLt_app; with_reducible apply allLt_app; with_reducible apply allLt_app; with_reducible assumption)
      | ((with_reducible apply allLt_app); with_reducible apply allLt_app; with_reducible apply allLt_app; with_reducible apply allLt_app; with_reducible apply allLt_app; with_reducible apply allLt_app; with_reducible assumption)
      | ((with_reducible apply allLt_app); with_reducible apply allLt_app; with_reducible apply allLt_app; with_reducible apply allLt_app; with_reducible apply allLt_app; with_reducible apply allLt_app; with_reducible apply allLt_app; with_reducible assumption)
    k_with "my ends" => first
      | (with_reducible exact Ends.base)
      | ((with_reducible apply Ends.app); with_reducible assumption)
      | ((with_reducible apply Ends.appR); (focus k_extra "my ends"); with_reducible assumption)
      | ((with_reducible apply Ends.cons); (focus k_extra "my lt"); k_extra "my ends")
      | ((with_reducible apply Ends.skip); k_extra "my ends")
    k_with "my ne" => first
      | (with_reducible assumption)
      | ((with_reducible refine Nat.ne_of_gt ?_); with_reducible assumption)
      | ((with_reducible refine Nat.ne_of_lt ?_); with_reducible assumption)
      | ((with_reducible refine Ne.symm ?_); with_reducible assumption)
      | ((with_reducible refine ne_up1 ?_); with_reducible assumption)
      | ((with_reducible refine ne_up2 ?_); with_reducible assumption)
      | ((with_reducible refine ne_up3 ?_); with_reducible assumption)
    k_with "my kne" => ((refine neN ?_); (try dsimp only); first
      | (k_extra "my ne")
      | exact Nat.ne_of_lt (Nat.lt_succ_self _)
      | exact Nat.ne_of_gt (Nat.lt_succ_self _)
      | exact Nat.ne_of_lt (Nat.lt_succ_of_lt (Nat.lt_succ_self _))
      | exact Nat.ne_of_gt (Nat.lt_succ_of_lt (Nat.lt_succ_self _))
      | ((refine Nat.ne_of_gt (Nat.lt_of_succ_lt ?_)); with_reducible assumption)
      | ((refine Nat.ne_of_gt (Nat.lt_of_succ_lt (Nat.lt_of_succ_lt ?_))); with_reducible assumption))
    k_with "my off" => first
      | (with_reducible assumption)
      | (with_reducible refine off3_lt ?_ ?_ ?_ <;> with_reducible assumption)
      | (with_reducible refine off3_app ?_ ?_ <;> k_extra "my off")
    k_with "my cut" => first
      | ((with_reducible apply Cut.skipI); k_extra "my cut")
      | ((with_reducible apply Cut.skipC); k_extra "my cut")
      | ((with_reducible apply Cut.skipD); k_extra "my cut")
      | ((with_reducible apply Cut.cons); (focus k_extra "my ne"); (focus k_extra "my ne"); (focus k_extra "my ne"); k_extra "my cut")
      | ((with_reducible apply Cut.base); k_extra "my off")
      | ((with_reducible apply Cut.skip); k_extra "my cut")
    k_with "my off1" => first
      | (with_reducible assumption)
      | ((with_reducible refine off1_lt ?_); with_reducible assumption)
      | (with_reducible refine off1_app ?_ ?_ <;> k_extra "my off1")
    k_with "my rel" => first
      | (with_reducible assumption)
      | ((with_reducible apply FIn.mono); (with_reducible assumption); k_extra "my sub")
      | ((with_reducible apply RelIn.mono); (with_reducible assumption); k_extra "my sub")
      | ((with_reducible apply VarIn.mono); (with_reducible assumption); k_extra "my sub")
      | ((with_reducible apply DecsIn.mono); (with_reducible assumption); k_extra "my sub")
      | ((with_reducible apply RelIn.mk); (focus k_extra "my mem"); (refine And.intro ?_ ?_ <;> with_reducible assumption))
      | ((with_reducible apply VarIn.mk); k_extra "my mem")
      | (with_reducible exact DecsIn.nil)
      | ((with_reducible apply DecsIn.cons); (focus ((with_reducible apply DecIn.at); (focus k_extra "my mem"); (focus (k_extra "my clean"; omega)); k_extra "my rel")); k_extra "my rel")
    k_with "my less" => first
      | exact Nat.lt_succ_self _
      | exact Nat.lt_succ_of_le (Nat.le_max_left _ _)
      | exact Nat.lt_succ_of_le (Nat.le_max_right _ _)
    k_with "my fin" => first
      | (k_extra "my rel")
      | ((with_reducible apply FIn.tf); k_extra "my mem")
      | ((with_reducible apply FIn.not); (focus k_extra "my mem"); k_extra "my fin")
      | ((with_reducible apply FIn.con0); (focus k_extra "my mem"); k_extra "my mem")
      | ((with_reducible apply FIn.con1); (focus k_extra "my mem"); (focus k_extra "my mem"); k_extra "my fin")
      | ((with_reducible apply FIn.con2); (focus k_extra "my mem"); (focus k_extra "my mem"); (focus k_extra "my fin"); k_extra "my fin")
      | ((with_reducible apply FIn.imp); (focus k_extra "my mem"); (focus k_extra "my fin"); k_extra "my fin")
      | ((with_reducible apply FIn.iff); (focus k_extra "my mem"); (focus k_extra "my fin"); k_extra "my fin")
      | ((with_reducible apply FIn.qu); (focus k_extra "my mem"); (focus k_extra "my mem"); (focus k_extra "my rel"); k_extra "my fin")
      | ((with_reducible apply FIn.some); (focus k_extra "my mem"); k_extra "my rel")
      | ((with_reducible apply FIn.inn); (focus k_extra "my mem"); (focus k_extra "my rel"); k_extra "my rel")
    k_with "my skip" => first
      | ((with_reducible apply skip_cons); (focus k_extra "my tst"); k_extra "my skip")
      | (with_reducible exact skip_nil)
    k_with "my walk" => (repeat' ((fail_if_success (with_reducible show LeaveK h₀ _ _ _ _ _ _)); first | ((fail_if_success (fail_if_success (with_reducible show wpAny _ _ (eval _ (compEnvC _ _ _ _)) (LCg.CompEnd _ _ _ _ _ _ _ _ _ _ _ _) _ _))); k_fold) | (k_unfold; (try dsimp only)) | walk1 | (dsimp only; walk1)))
    k_with "my steps" => (repeat' (first | ((fail_if_success (fail_if_success (with_reducible show wpAny _ _ (eval _ (compEnvC _ _ _ _)) (LCg.CompEnd _ _ _ _ _ _ _ _ _ _ _ _) _ _))); k_fold) | (k_unfold; (try dsimp only)) | walk1 | (dsimp only; walk1)))
    k_with "my bool" => first
      | ((with_reducible apply sel_one); (focus kernel_rfl!); kernel_rfl!)
      | ((with_reducible apply sel_two); (focus kernel_rfl!); kernel_rfl!)
      | ((with_reducible apply sel_no); (focus kernel_rfl!); kernel_rfl!)
      | ((with_reducible apply sel_in); (focus kernel_rfl!); kernel_rfl!)
      | kernel_rfl!
      | exact rfl
    k_with "my val" => first
      | ((with_reducible show Val _ _ _ _ _ _ _ _ (PySem.Expr.Name _ _) _); first
        | ((with_reducible apply val_local); (focus exact rfl); (focus exact rfl); (focus exact rfl); (focus exact rfl); decide)
        | ((with_reducible apply val_cell); (focus exact rfl); (focus exact rfl); (focus k_extra "my mem"); (focus k_asm); (focus exact rfl); (focus exact rfl); decide))
      | ((with_reducible show Val _ _ _ _ _ _ _ _ (PySem.Expr.Subscript _ _ _) _); (with_reducible apply val_item); (focus k_extra "my val"); (focus k_extra "my mem"); (focus (refine And.intro ?_ ?_; decide; exact rfl)); exact rfl)
      | ((with_reducible show Val _ _ _ _ _ _ _ _ (PySem.Expr.Subscript _ (PySem.Expr.Constant (PySem.Const.int 0) _ _) _) _); (with_reducible apply val_head); (focus k_extra "my val"); (focus with_reducible assumption); k_extra "my mem")
      | ((with_reducible show Val _ _ _ _ _ _ _ _ (PySem.Expr.Compare _ [PySem.CmpOp.Eq] _ _) _); (with_reducible apply val_eq); (focus k_extra "my val"); k_extra "my bool")
      | ((with_reducible show ValH _ _ _ _ _ _ _ _ (PySem.Expr.Compare _ [PySem.CmpOp.In] _ _) _); (with_reducible apply val_in); (focus k_extra "my val"); (focus exact rfl); (focus exact Nat.le_of_ble_eq_true rfl); k_extra "my bool")
    k_with "my tst" => first
      | ((with_reducible show Tst _ _ _ _ _ _ _ _ (PySem.Expr.Compare _ [PySem.CmpOp.In] _ _) _); (with_reducible apply tst_in); (focus k_extra "my val"); (focus exact rfl); (focus exact Nat.le_of_ble_eq_true rfl); k_extra "my bool")
      | ((with_reducible show Tst _ _ _ _ _ _ _ _ (PySem.Expr.Compare _ [PySem.CmpOp.Eq] [PySem.Expr.Constant _ _ _] _) _); (with_reducible apply tst_eq); (focus k_extra "my val"); k_extra "my bool")
      | ((with_reducible show Tst _ _ _ _ _ _ _ _ (PySem.Expr.Compare _ [PySem.CmpOp.NotEq] [PySem.Expr.Constant _ _ _] _) _); first
        | ((with_reducible apply tst_ne_f); (focus k_extra "my val"); k_extra "my bool")
        | ((with_reducible apply tst_ne_t); (focus k_extra "my val"); k_extra "my bool"))
      | ((with_reducible show Tst _ _ _ _ _ _ _ _ (PySem.Expr.Compare _ [PySem.CmpOp.Eq] [PySem.Expr.Name _ _] _) _); (with_reducible apply tst_eqb); (focus k_extra "my val"); (focus k_extra "my val"); exact rfl)
      | ((with_reducible show Tst _ _ _ _ _ _ _ _ (PySem.Expr.BoolOp _ _ _) _); first
        | ((with_reducible apply tst_or_no); (focus k_extra "my tst"); k_extra "my tst")
        | ((with_reducible apply tst_or_yes); k_extra "my tst"))
      | ((with_reducible show Tst _ _ _ _ _ _ _ _ (PySem.Expr.Name _ _) _); (with_reducible apply tst_val); (focus k_extra "my val"); intro _; rfl)
    k_with "execs cons If" => (k_here; k_dflt ((rename Fr _ _ _ _ => kF); (rename News _ _ _ _ => kN); first
      | (apply skip_use kF kN; (focus ((with_reducible apply skip_cons); (focus k_extra "my tst"); k_extra "my skip")); intro h' tk' F' N'; k_sweep)
      | ((with_reducible show wpAny _ _ (execs (PySem.Stmt.If _ [PySem.Stmt.Return (some _) _] _ _ :: _) _) _ _ _); refine s_yes kF kN ?_ ?_; (focus k_extra "my tst"); intro h' tk' F' N'; k_sweep)
      | (refine s_yes2 kF kN ?_ ?_; (focus k_extra "my tst"); intro h' tk' F' N'; k_sweep)))
    k_with "execs cons Return" => (k_here; with_reducible refine s_ret ?_)
    k_with "execs cons Assign" => (k_here; (with_reducible show wpAny _ _ (execs (PySem.Stmt.Assign [PySem.Expr.Name _ _] (PySem.Expr.Subscript _ (PySem.Expr.Constant _ _ _) _) _ :: _) _) _ _ _); k_dflt ((with_reducible apply s_let); (focus exact rfl); (focus k_asm); (focus k_asm); (focus k_extra "my val"); (focus exact rfl); (focus exact rfl); (focus exact rfl); intro h' tk' F' N'; k_sweep))
    k_with "ite" => first
      | (k_dflt (refine ite_pos ?_ ?_; (focus decide)))
      | (k_dflt (refine ite_neg ?_ ?_; (focus decide)))
      | (with_reducible refine ite_dec ?_ ?_ <;> intro _)
    k_with "eval Subscript" => (k_here; (with_reducible show wpAny _ _ (eval (PySem.Expr.Subscript _ (PySem.Expr.Constant _ _ _) _) _) _ _ _); k_dflt ((rename Fr _ _ _ _ => kF); (rename News _ _ _ _ => kN); apply e_val kF kN; (focus k_extra "my val"); intro tk'))
    k_with "eval Compare" => (k_here; k_dflt ((rename Fr _ _ _ _ => kF); (rename News _ _ _ _ => kN); first
      | ((with_reducible show wpAny _ _ (eval (PySem.Expr.Compare _ [PySem.CmpOp.In] _ _) _) _ _ _); apply e_valH kF kN; (focus k_extra "my val"); intro h' tk' F' N'; k_sweep)
      | (apply e_val kF kN; (focus k_extra "my val"); intro tk')))
    k_with "eval IfExp" => (k_here; k_dflt ((rename Fr _ _ _ _ => kF); (rename News _ _ _ _ => kN); first
      | ((with_reducible show wpAny _ _ (eval (PySem.Expr.IfExp _ (PySem.Expr.Constant (PySem.Const.str _) _ _) (PySem.Expr.Constant (PySem.Const.str _) _ _) _) _) _ _ _); apply e_sel kF kN; (focus k_extra "my tst"); intro h' tk' t' F' N'; k_sweep)
      | (refine e_no kF kN ?_ ?_; (focus k_extra "my tst"); intro h' tk' F' N'; k_sweep)
      | (refine e_yes kF kN ?_ ?_; (focus k_extra "my tst"); intro h' tk' F' N'; k_sweep)
      | (refine' e_if kF kN ?_ ?_ ?_; rotate_left; (focus k_extra "my tst"); (intro hc h' tk' F' N'; k_sweep); rotate_left; (intro hc h' tk' F' N'; k_sweep))))
    k_with "my val" => first
      | ((with_reducible show Val _ _ _ _ _ _ _ (compEnvC _ _ _ _) (PySem.Expr.Name _ _) _); first
        | ((with_reducible apply val_own); (focus k_extra "my mem"); (focus with_reducible assumption); (focus with_reducible assumption); (focus exact rfl); (focus exact rfl); decide)
        | ((with_reducible apply val_free); (focus exact rfl); (focus k_extra "my mem"); (focus k_asm); (focus exact rfl); (focus exact rfl); decide))
      | ((with_reducible show Val _ _ _ _ _ _ _ _ (PySem.Expr.UnaryOp _ _ _) _); (with_reducible apply val_not); k_extra "my val")
      | (with_reducible exact val_bool)
    k_with "my fn" => first
      | ((with_reducible show Val _ _ _ _ _ _ _ (compEnvC _ _ _ _) _ _); (with_reducible apply val_globC); (focus k_asm); (focus k_asm); (focus k_is); (focus exact rfl); (focus exact rfl); (focus exact rfl); decide)
      | ((with_reducible apply val_glob); (focus exact rfl); (focus k_asm); (focus k_asm); (focus k_is); (focus exact rfl); (focus exact rfl); decide)
    k_with "my arg" => first
      | (with_reducible exact arg_int)
      | (with_reducible exact arg_str)
      | ((with_reducible show Arg _ _ _ _ _ _ _ _ (PySem.Expr.BinOp _ _ _ _) _); (with_reducible apply arg_sub); k_extra "my val")
      | ((with_reducible apply arg_val); k_extra "my val")
    k_with "eval Call" => (k_here; k_dflt ((rename Fr _ _ _ _ => kF); (rename News _ _ _ _ => kN); first
      | ((with_reducible show wpAny _ _ (eval (PySem.Expr.Call (PySem.Expr.Name _ _) [_] [] _) _) _ _ _); apply e_call1 kF kN; (focus k_asm); (focus k_extra "my fn"); (focus k_is); (focus k_extra "my arg"); (focus exact rfl); (focus exact rfl); intro tk' t')
      | ((with_reducible show wpAny _ _ (eval (PySem.Expr.Call (PySem.Expr.Name _ _) [_, _] [] _) _) _ _ _); apply e_call2 kF kN; (focus k_asm); (focus k_extra "my fn"); (focus k_is); (focus k_extra "my arg"); (focus k_extra "my arg"); (focus exact rfl); (focus exact rfl); (focus exact rfl); (focus exact rfl); intro tk' t' u')
      | ((with_reducible show wpAny _ _ (eval (PySem.Expr.Call (PySem.Expr.Name _ _) [_, _, _] [] _) _) _ _ _); apply e_call3 kF kN; (focus k_asm); (focus k_extra "my fn"); (focus k_is); (focus k_extra "my arg"); (focus k_extra "my arg"); (focus k_extra "my arg"); (focus exact rfl); (focus exact rfl); (focus exact rfl); (focus exact rfl); (focus exact rfl); intro tk' t' u' v')))
    k_with "CompEnd" => (k_extra "my split"; k_dflt ((with_reducible apply comp_end); (focus k_asm); (focus k_asm); (focus k_extra "my mem"); (focus k_extra "my mem"); (focus k_extra "my mem"); (focus k_extra "my cut"); (focus (first | exact trivial | ((with_reducible apply src_at); k_extra "my mem") | k_extra "my mem"))))
    k_with "TupSrc" => (k_here; k_dflt ((with_reducible apply TupSrc.ledger); (focus exact rfl); (focus k_asm); (focus k_asm); (focus k_extra "my mem"); (focus (first | exact Nat.le_of_ble_eq_true rfl | size_fits)); intro g'; lcg_lit))
    k_with "subscriptTail" => (k_here; (with_reducible show wpAny _ _ (subscriptTail _ _ (Value.ref _) (Value.int _ _)) _ _ _); k_dflt ((with_reducible apply item_tupleT); (focus ((with_reducible apply News.isTup); (focus k_asm); k_extra "my mem")); (focus decide); (focus decide); (focus exact rfl); (focus exact rfl); k_whole))
    k_with "my cut1" => first
      | ((with_reducible apply Cut1.skip); k_extra "my cut1")
      | ((with_reducible apply Cut1.cons); (focus k_extra "my ne"); k_extra "my cut1")
      | ((with_reducible apply Cut1.base); k_extra "my off1")
    k_with "my above" => first
      | (with_reducible assumption)
      | (with_reducible exact above_nil)
      | ((with_reducible refine above_cons ?_ ?_); (focus with_reducible assumption); k_extra "my above")
      | ((with_reducible refine above_app ?_ ?_) <;> k_extra "my above")
    k_with "my arith" => first
      | (with_reducible assumption)
      | (k_extra "my clean"; omega)
    k_with "my room" => (k_extra "my clean"; omega)
    k_with "my bound" => (k_extra "my clean"; omega)
    k_with "call ref" => k_extra "my split"; first | ((with_reducible show wpAny _ _ (call (Value.ref 221) [_, Value.int 1 _]) _ _ _); (k_dflt ((apply use_draw); (focus exact hDraw); (focus k_asm); (focus k_asm); (focus k_asm); (focus k_asm); (focus with_reducible assumption); (focus k_extra "my mem"); (focus with_reducible assumption); (focus k_extra "my cut1"); (focus k_asm); (focus (first | exact rfl | assumption)); (focus with_reducible assumption); (focus k_extra "my mem"); (focus with_reducible assumption); (focus decide); (focus decide); (focus k_extra "my arith"); (focus k_extra "my arith"); (focus (exact room2 (dp := dp) (a := 1) hd ((Nat.le_of_ble_eq_true rfl)))); (focus (exact units2 (un := un) (a := 1) hu ((Nat.le_of_ble_eq_true rfl)))); intro x9 t9 h9 tk9 o9 tk9' tc9' F9 N9 hd9 x90 x91; (try simp only [List.nil_append, List.cons_append] at N9); (try dsimp only); (try k_fold))); (refine idx1 x90 x91 ?_; intro e9; subst e9)) | ((with_reducible show wpAny _ _ (call (Value.ref 228) _) _ _ _); (k_dflt (refine' use_F (hAtom _) ?k1 ?k2 ?k3 ?k4 ?kO ?kM ?kY ?kU ?k5 ?kK ?kI ?kL ?kX ?kR ?kS ?b0 ?b1 ?b2 ?b3 ?kd ?ku ?_; (case k1 => k_asm); (case k2 => k_asm); (case k3 => k_asm); (case k4 => k_asm); (case kO => with_reducible assumption); (case kM => k_extra "my mem"); (case kY => with_reducible assumption); (case kU => k_extra "my cut1"); (case k5 => k_asm); (case kK => first | exact rfl | assumption); (case kI => with_reducible assumption); (case kL => k_extra "my mem"); (case kX => with_reducible assumption); (case kR => (refine' ARel.mk ?q0 ?q1; (case q0 => with_reducible assumption); (case q1 => (first | exact nd0 hn | exact nd1 hn | exact nd2 hn | exact nd6 hn | exact dm1 d | (k_extra "my clean"; omega))))); (case kS => k_extra "my sub"); (case b0 => k_extra "my arith"); (case b1 => ((simp only [drawnCost, atomCost, costD]); k_extra "my room")); (case b2 => k_extra "my arith"); (case b3 => ((simp only [drawnCost, atomCost, costD]); k_extra "my room")); (case kd => exact room2 (dp := dp) (a := atomSize _) hd ((Nat.le_of_ble_eq_true rfl))); (case ku => exact units2 (un := un) (a := atomSize _) hu ((Nat.le_of_ble_eq_true rfl))); intro r9 G9 tl9 h9 tk9 o9 k9 c9 tk9' tc9' F9 N9 hd9 hl9 hfd9 hk9 hk9' hc9 hc9' hf9 hz9 hs9; (try simp only [List.forall_mem_cons, List.forall_mem_append] at hl9); (try simp only [List.nil_append, List.cons_append] at N9); (simp only [drawnCost, atomCost, costD] at hk9' hc9'); (try dsimp only); (try k_fold))))
    k_with "call builtin:len" => (k_here; (with_reducible show wpAny _ _ (call (Value.builtin "len") [Value.ref _]) _ _ _); (have hLen9 := StrsAre.length hvs); (rw [names_length] at hLen9); k_dflt ((with_reducible apply len_list); (focus (apply News.isList; (focus k_asm); k_extra "my mem")); (focus (k_extra "my clean"; simp only [List.size_toArray]; omega)); k_whole); (try simp only [List.size_toArray, hLen9]))
    refine wpAny_call ?_
    k_dflt ktr_enter
    k_extra "my walk"
    all_goals (
      k_extra "my split"; k_extra "my clean"
      k_dflt (apply leave_M (Out := drawnOut); (focus exact hret); (focus k_asm); (focus k_asm); (focus with_reducible assumption); (focus k_extra "my mem"); (focus k_extra "my ends"); (focus k_extra "my above"); (focus k_extra "my arith"); (focus (simp only [drawnCost, atomCost, costD]; k_extra "my bound")); (focus k_extra "my arith"); (focus (simp only [drawnCost, atomCost, costD]; k_extra "my bound")); first | (refine' ⟨_, ?ff, ?zz, ?ww⟩; (case ff => k_extra "my rel"); (case zz => first | assumption | exact Nat.le_trans (by assumption) (Nat.succ_le_succ (Nat.zero_le _))); (case ww => assumption))))
  case succ d =>
    subst hx
    have hC3 := costD_3 d
    simp only [drawnCost, costD] at hk1 hc1
    k_with_none
    k_with "my enter" => first
      | (refine' code_def ?k1_en0 ?k2_en0 ?k3_en0 ?k4_en0 ?k5_en0 ?kA_en0 ?kF_en0 ?kK_en0 ?k6_en0 ?k7_en0 ?k8_en0 ?k9_en0 ?kB_en0 ?_ ?c2_en0 ?c3_en0 ?c4_en0 ?c5_en0; (case kA_en0 => exact rfl); (case kF_en0 => exact rfl); (case kK_en0 => first | exact rfl | assumption); (case k1_en0 => k_asm); (case k2_en0 => k_asm); (case k3_en0 => k_asm); (case k4_en0 => k_asm); (case k5_en0 => k_asm); (case k6_en0 => k_is); (case k7_en0 => k_is); (case k8_en0 => ktr_room); (case k9_en0 => exact BindsTo.of_eq rfl); (case c5_en0 => decide); (case kB_en0 => exact locs rfl); (case c2_en0 => exact rfl); (case c3_en0 => exact rfl); (case c4_en0 => exact rfl); k_whole; intro g' L' h' FG' F' N' B' X' T'; (try dsimp only); (try k_fold))
      | (refine' code_defC ?k1_en1 ?k2_en1 ?k3_en1 ?k4_en1 ?k5_en1 ?kA_en1 ?kF_en1 ?kK_en1 ?k6_en1 ?k7_en1 ?k8_en1 ?k9_en1 ?kB_en1 ?kD_en1 ?_ ?c2_en1 ?c3_en1 ?c4_en1; (case kA_en1 => exact rfl); (case kF_en1 => exact rfl); (case kK_en1 => first | exact rfl | assumption); (case k1_en1 => k_asm); (case k2_en1 => k_asm); (case k3_en1 => k_asm); (case k4_en1 => k_asm); (case k5_en1 => k_asm); (case k6_en1 => k_is); (case k7_en1 => k_is); (case k8_en1 => ktr_room); (case k9_en1 => exact BindsTo.of_eq rfl); (case kB_en1 => exact rfl); (case kD_en1 => decide +kernel); (case c2_en1 => exact rfl); (case c3_en1 => exact rfl); (case c4_en1 => exact rfl); k_whole; intro g' L' h' tk' cells' FG' F' N' Y' B' X' T' l1; (try k_lt l1); (first | (refine cells1 Y' N' ?_; clear Y' N' cells'; intro o1' N' d1') | (refine cells2 Y' N' ?_; clear Y' N' cells'; intro o1' o2' N' d1' d2') | (refine cells3 Y' N' ?_; clear Y' N' cells'; intro o1' o2' o3' N' d1' d2' d3') | (refine cells4 Y' N' ?_; clear Y' N' cells'; intro o1' o2' o3' o4' N' d1' d2' d3' d4')); (repeat ((with_reducible rename (Obj.data _ = Data.cell (bindC _ _ _ _)) => hcl1); (first | (have hcl2 : Obj.data _ = Data.cell (some _) := hcl1) | (have hcl2 : Obj.data _ = Data.cell none := hcl1)); clear hcl1)); (try dsimp only); (try k_fold))
    k_with "my mem" => first
      | (with_reducible assumption)
      | (with_reducible exact List.mem_cons_self)
      | ((with_reducible refine mem_head ?_); exact rfl)
      | ((with_reducible refine List.mem_cons_of_mem _ ?_); k_extra "my mem")
      | ((with_reducible apply Sub.mem); (with_reducible assumption); (with_reducible assumption))
      | ((with_reducible refine List.mem_append.mpr (Or.inl ?_)); k_extra "my mem")
      | ((with_reducible refine List.mem_append.mpr (Or.inr ?_)); k_extra "my mem")
    k_with "my clean" => (repeat ((with_reducible rename (@Ne Nat _ _) => hNe); clear hNe))
    k_with "my split" => (repeat ((with_reducible rename (_ ∧ _) => hAnd); first | ((with_reducible refine (fun hAnd1 hAnd2 hAnd3 hAnd4 hAnd5 hAnd6 hAnd7 hAnd8 hAnd9 hAnd10 hAnd11 hAndR => ?_) (hAnd.1) (hAnd.2.1) (hAnd.2.2.1) (hAnd.2.2.2.1) (hAnd.2.2.2.2.1) (hAnd.2.2.2.2.2.1) (hAnd.2.2.2.2.2.2.1) (hAnd.2.2.2.2.2.2.2.1) (hAnd.2.2.2.2.2.2.2.2.1) (hAnd.2.2.2.2.2.2.2.2.2.1) (hAnd.2.2.2.2.2.2.2.2.2.2.1) (hAnd.2.2.2.2.2.2.2.2.2.2.2)); clear hAnd) | ((with_reducible refine (fun hAnd1 hAnd2 hAnd3 hAnd4 hAnd5 hAnd6 hAnd7 hAndR => ?_) (hAnd.1) (hAnd.2.1) (hAnd.2.2.1) (hAnd.2.2.2.1) (hAnd.2.2.2.2.1) (hAnd.2.2.2.2.2.1) (hAnd.2.2.2.2.2.2.1) (hAnd.2.2.2.2.2.2.2)); clear hAnd) | ((with_reducible refine (fun hAnd1 hAnd2 hAnd3 hAnd4 hAndR => ?_) (hAnd.1) (hAnd.2.1) (hAnd.2.2.1) (hAnd.2.2.2.1) (hAnd.2.2.2.2)); clear hAnd) | ((with_reducible refine (fun hAnd1 hAnd2 hAndR => ?_) (hAnd.1) (hAnd.2.1) (hAnd.2.2)); clear hAnd) | (have hAnd1 := And.left hAnd; have hAnd2 := And.right hAnd; clear hAnd)))
    k_with "my sub" => first
      | (with_reducible exact Sub.refl)
      | (with_reducible assumption)
      | (with_reducible exact Sub.nil)
      | (with_reducible refine Sub.app ?_ ?_ <;> k_extra "my sub")
      | ((with_reducible refine Sub.one ?_ ?_); k_extra "my mem"; k_extra "my sub")
      | ((with_reducible refine Sub.cons ?_); k_extra "my sub")
      | ((with_reducible refine Sub.left ?_); k_extra "my sub")
      | ((with_reducible refine Sub.right ?_); k_extra "my sub")
    k_with "my lt" => first
      | (with_reducible assumption)
      | ((with_reducible refine allLt_of ?_); with_reducible assumption)
      | ((with_reducible apply allLt_app); with_reducible assumption)
      | ((with_reducible apply allLt_app); with_reducible apply allLt_app; with_reducible assumption)
      | ((with_reducible apply allLt_app); with_reducible apply allLt_app; with_reducible apply allLt_app; with_reducible assumption)
      | ((with_reducible apply allLt_app); with_reducible apply allLt_app; with_reducible apply allLt_app; with_reducible apply allLt_app; with_reducible assumption)
      | ((with_reducible apply allLt_app); with_reducible apply allLt_app; with_reducible apply allLt_app; with_reducible apply allLt_app; with_reducible apply allLt_app; with_reducible assumption)
      | ((with_reducible apply allLt_app); with_reducible apply allLt_app; with_reducible apply allLt_app; with_reducible apply allLt_app; with_reducible apply allLt_app; with_reducible apply allLt_app; with_reducible assumption)
      | ((with_reducible apply allLt_app); with_reducible apply allLt_app; with_reducible apply allLt_app; with_reducible apply allLt_app; with_reducible apply allLt_app; with_reducible apply allLt_app; with_reducible apply allLt_app; with_reducible assumption)
    k_with "my ends" => first
      | (with_reducible exact Ends.base)
      | ((with_reducible apply Ends.app); with_reducible assumption)
      | ((with_reducible apply Ends.appR); (focus k_extra "my ends"); with_reducible assumption)
      | ((with_reducible apply Ends.cons); (focus k_extra "my lt"); k_extra "my ends")
      | ((with_reducible apply Ends.skip); k_extra "my ends")
    k_with "my ne" => first
      | (with_reducible assumption)
      | ((with_reducible refine Nat.ne_of_gt ?_); with_reducible assumption)
      | ((with_reducible refine Nat.ne_of_lt ?_); with_reducible assumption)
      | ((with_reducible refine Ne.symm ?_); with_reducible assumption)
      | ((with_reducible refine ne_up1 ?_); with_reducible assumption)
      | ((with_reducible refine ne_up2 ?_); with_reducible assumption)
      | ((with_reducible refine ne_up3 ?_); with_reducible assumption)
    k_with "my kne" => ((refine neN ?_); (try dsimp only); first
      | (k_extra "my ne")
      | exact Nat.ne_of_lt (Nat.lt_succ_self _)
      | exact Nat.ne_of_gt (Nat.lt_succ_self _)
      | exact Nat.ne_of_lt (Nat.lt_succ_of_lt (Nat.lt_succ_self _))
      | exact Nat.ne_of_gt (Nat.lt_succ_of_lt (Nat.lt_succ_self _))
      | ((refine Nat.ne_of_gt (Nat.lt_of_succ_lt ?_)); with_reducible assumption)
      | ((refine Nat.ne_of_gt (Nat.lt_of_succ_lt (Nat.lt_of_succ_lt ?_))); with_reducible assumption))
    k_with "my off" => first
      | (with_reducible assumption)
      | (with_reducible refine off3_lt ?_ ?_ ?_ <;> with_reducible assumption)
      | (with_reducible refine off3_app ?_ ?_ <;> k_extra "my off")
    k_with "my cut" => first
      | ((with_reducible apply Cut.skipI); k_extra "my cut")
      | ((with_reducible apply Cut.skipC); k_extra "my cut")
      | ((with_reducible apply Cut.skipD); k_extra "my cut")
      | ((with_reducible apply Cut.cons); (focus k_extra "my ne"); (focus k_extra "my ne"); (focus k_extra "my ne"); k_extra "my cut")
      | ((with_reducible apply Cut.base); k_extra "my off")
      | ((with_reducible apply Cut.skip); k_extra "my cut")
    k_with "my off1" => first
      | (with_reducible assumption)
      | ((with_reducible refine off1_lt ?_); with_reducible assumption)
      | (with_reducible refine off1_app ?_ ?_ <;> k_extra "my off1")
    k_with "my rel" => first
      | (with_reducible assumption)
      | ((with_reducible apply FIn.mono); (with_reducible assumption); k_extra "my sub")
      | ((with_reducible apply RelIn.mono); (with_reducible assumption); k_extra "my sub")
      | ((with_reducible apply VarIn.mono); (with_reducible assumption); k_extra "my sub")
      | ((with_reducible apply DecsIn.mono); (with_reducible assumption); k_extra "my sub")
      | ((with_reducible apply RelIn.mk); (focus k_extra "my mem"); (refine And.intro ?_ ?_ <;> with_reducible assumption))
      | ((with_reducible apply VarIn.mk); k_extra "my mem")
      | (with_reducible exact DecsIn.nil)
      | ((with_reducible apply DecsIn.cons); (focus ((with_reducible apply DecIn.at); (focus k_extra "my mem"); (focus (k_extra "my clean"; omega)); k_extra "my rel")); k_extra "my rel")
    k_with "my less" => first
      | exact Nat.lt_succ_self _
      | exact Nat.lt_succ_of_le (Nat.le_max_left _ _)
      | exact Nat.lt_succ_of_le (Nat.le_max_right _ _)
    k_with "my fin" => first
      | (k_extra "my rel")
      | ((with_reducible apply FIn.tf); k_extra "my mem")
      | ((with_reducible apply FIn.not); (focus k_extra "my mem"); k_extra "my fin")
      | ((with_reducible apply FIn.con0); (focus k_extra "my mem"); k_extra "my mem")
      | ((with_reducible apply FIn.con1); (focus k_extra "my mem"); (focus k_extra "my mem"); k_extra "my fin")
      | ((with_reducible apply FIn.con2); (focus k_extra "my mem"); (focus k_extra "my mem"); (focus k_extra "my fin"); k_extra "my fin")
      | ((with_reducible apply FIn.imp); (focus k_extra "my mem"); (focus k_extra "my fin"); k_extra "my fin")
      | ((with_reducible apply FIn.iff); (focus k_extra "my mem"); (focus k_extra "my fin"); k_extra "my fin")
      | ((with_reducible apply FIn.qu); (focus k_extra "my mem"); (focus k_extra "my mem"); (focus k_extra "my rel"); k_extra "my fin")
      | ((with_reducible apply FIn.some); (focus k_extra "my mem"); k_extra "my rel")
      | ((with_reducible apply FIn.inn); (focus k_extra "my mem"); (focus k_extra "my rel"); k_extra "my rel")
    k_with "my skip" => first
      | ((with_reducible apply skip_cons); (focus k_extra "my tst"); k_extra "my skip")
      | (with_reducible exact skip_nil)
    k_with "my walk" => (repeat' ((fail_if_success (with_reducible show LeaveK h₀ _ _ _ _ _ _)); first | ((fail_if_success (fail_if_success (with_reducible show wpAny _ _ (eval _ (compEnvC _ _ _ _)) (LCg.CompEnd _ _ _ _ _ _ _ _ _ _ _ _) _ _))); k_fold) | (k_unfold; (try dsimp only)) | walk1 | (dsimp only; walk1)))
    k_with "my steps" => (repeat' (first | ((fail_if_success (fail_if_success (with_reducible show wpAny _ _ (eval _ (compEnvC _ _ _ _)) (LCg.CompEnd _ _ _ _ _ _ _ _ _ _ _ _) _ _))); k_fold) | (k_unfold; (try dsimp only)) | walk1 | (dsimp only; walk1)))
    k_with "my bool" => first
      | ((with_reducible apply sel_one); (focus kernel_rfl!); kernel_rfl!)
      | ((with_reducible apply sel_two); (focus kernel_rfl!); kernel_rfl!)
      | ((with_reducible apply sel_no); (focus kernel_rfl!); kernel_rfl!)
      | ((with_reducible apply sel_in); (focus kernel_rfl!); kernel_rfl!)
      | kernel_rfl!
      | exact rfl
    k_with "my val" => first
      | ((with_reducible show Val _ _ _ _ _ _ _ _ (PySem.Expr.Name _ _) _); first
        | ((with_reducible apply val_local); (focus exact rfl); (focus exact rfl); (focus exact rfl); (focus exact rfl); decide)
        | ((with_reducible apply val_cell); (focus exact rfl); (focus exact rfl); (focus k_extra "my mem"); (focus k_asm); (focus exact rfl); (focus exact rfl); decide))
      | ((with_reducible show Val _ _ _ _ _ _ _ _ (PySem.Expr.Subscript _ _ _) _); (with_reducible apply val_item); (focus k_extra "my val"); (focus k_extra "my mem"); (focus (refine And.intro ?_ ?_; decide; exact rfl)); exact rfl)
      | ((with_reducible show Val _ _ _ _ _ _ _ _ (PySem.Expr.Subscript _ (PySem.Expr.Constant (PySem.Const.int 0) _ _) _) _); (with_reducible apply val_head); (focus k_extra "my val"); (focus with_reducible assumption); k_extra "my mem")
      | ((with_reducible show Val _ _ _ _ _ _ _ _ (PySem.Expr.Compare _ [PySem.CmpOp.Eq] _ _) _); (with_reducible apply val_eq); (focus k_extra "my val"); k_extra "my bool")
      | ((with_reducible show ValH _ _ _ _ _ _ _ _ (PySem.Expr.Compare _ [PySem.CmpOp.In] _ _) _); (with_reducible apply val_in); (focus k_extra "my val"); (focus exact rfl); (focus exact Nat.le_of_ble_eq_true rfl); k_extra "my bool")
    k_with "my tst" => first
      | ((with_reducible show Tst _ _ _ _ _ _ _ _ (PySem.Expr.Compare _ [PySem.CmpOp.In] _ _) _); (with_reducible apply tst_in); (focus k_extra "my val"); (focus exact rfl); (focus exact Nat.le_of_ble_eq_true rfl); k_extra "my bool")
      | ((with_reducible show Tst _ _ _ _ _ _ _ _ (PySem.Expr.Compare _ [PySem.CmpOp.Eq] [PySem.Expr.Constant _ _ _] _) _); (with_reducible apply tst_eq); (focus k_extra "my val"); k_extra "my bool")
      | ((with_reducible show Tst _ _ _ _ _ _ _ _ (PySem.Expr.Compare _ [PySem.CmpOp.NotEq] [PySem.Expr.Constant _ _ _] _) _); first
        | ((with_reducible apply tst_ne_f); (focus k_extra "my val"); k_extra "my bool")
        | ((with_reducible apply tst_ne_t); (focus k_extra "my val"); k_extra "my bool"))
      | ((with_reducible show Tst _ _ _ _ _ _ _ _ (PySem.Expr.Compare _ [PySem.CmpOp.Eq] [PySem.Expr.Name _ _] _) _); (with_reducible apply tst_eqb); (focus k_extra "my val"); (focus k_extra "my val"); exact rfl)
      | ((with_reducible show Tst _ _ _ _ _ _ _ _ (PySem.Expr.BoolOp _ _ _) _); first
        | ((with_reducible apply tst_or_no); (focus k_extra "my tst"); k_extra "my tst")
        | ((with_reducible apply tst_or_yes); k_extra "my tst"))
      | ((with_reducible show Tst _ _ _ _ _ _ _ _ (PySem.Expr.Name _ _) _); (with_reducible apply tst_val); (focus k_extra "my val"); intro _; rfl)
    k_with "execs cons If" => (k_here; k_dflt ((rename Fr _ _ _ _ => kF); (rename News _ _ _ _ => kN); first
      | (apply skip_use kF kN; (focus ((with_reducible apply skip_cons); (focus k_extra "my tst"); k_extra "my skip")); intro h' tk' F' N'; k_sweep)
      | ((with_reducible show wpAny _ _ (execs (PySem.Stmt.If _ [PySem.Stmt.Return (some _) _] _ _ :: _) _) _ _ _); refine s_yes kF kN ?_ ?_; (focus k_extra "my tst"); intro h' tk' F' N'; k_sweep)
      | (refine s_yes2 kF kN ?_ ?_; (focus k_extra "my tst"); intro h' tk' F' N'; k_sweep)))
    k_with "execs cons Return" => (k_here; with_reducible refine s_ret ?_)
    k_with "execs cons Assign" => (k_here; (with_reducible show wpAny _ _ (execs (PySem.Stmt.Assign [PySem.Expr.Name _ _] (PySem.Expr.Subscript _ (PySem.Expr.Constant _ _ _) _) _ :: _) _) _ _ _); k_dflt ((with_reducible apply s_let); (focus exact rfl); (focus k_asm); (focus k_asm); (focus k_extra "my val"); (focus exact rfl); (focus exact rfl); (focus exact rfl); intro h' tk' F' N'; k_sweep))
    k_with "ite" => first
      | (k_dflt (refine ite_pos ?_ ?_; (focus decide)))
      | (k_dflt (refine ite_neg ?_ ?_; (focus decide)))
      | (with_reducible refine ite_dec ?_ ?_ <;> intro _)
    k_with "eval Subscript" => (k_here; (with_reducible show wpAny _ _ (eval (PySem.Expr.Subscript _ (PySem.Expr.Constant _ _ _) _) _) _ _ _); k_dflt ((rename Fr _ _ _ _ => kF); (rename News _ _ _ _ => kN); apply e_val kF kN; (focus k_extra "my val"); intro tk'))
    k_with "eval Compare" => (k_here; k_dflt ((rename Fr _ _ _ _ => kF); (rename News _ _ _ _ => kN); first
      | ((with_reducible show wpAny _ _ (eval (PySem.Expr.Compare _ [PySem.CmpOp.In] _ _) _) _ _ _); apply e_valH kF kN; (focus k_extra "my val"); intro h' tk' F' N'; k_sweep)
      | (apply e_val kF kN; (focus k_extra "my val"); intro tk')))
    k_with "eval IfExp" => (k_here; k_dflt ((rename Fr _ _ _ _ => kF); (rename News _ _ _ _ => kN); first
      | ((with_reducible show wpAny _ _ (eval (PySem.Expr.IfExp _ (PySem.Expr.Constant (PySem.Const.str _) _ _) (PySem.Expr.Constant (PySem.Const.str _) _ _) _) _) _ _ _); apply e_sel kF kN; (focus k_extra "my tst"); intro h' tk' t' F' N'; k_sweep)
      | (refine e_no kF kN ?_ ?_; (focus k_extra "my tst"); intro h' tk' F' N'; k_sweep)
      | (refine e_yes kF kN ?_ ?_; (focus k_extra "my tst"); intro h' tk' F' N'; k_sweep)
      | (refine' e_if kF kN ?_ ?_ ?_; rotate_left; (focus k_extra "my tst"); (intro hc h' tk' F' N'; k_sweep); rotate_left; (intro hc h' tk' F' N'; k_sweep))))
    k_with "my val" => first
      | ((with_reducible show Val _ _ _ _ _ _ _ (compEnvC _ _ _ _) (PySem.Expr.Name _ _) _); first
        | ((with_reducible apply val_own); (focus k_extra "my mem"); (focus with_reducible assumption); (focus with_reducible assumption); (focus exact rfl); (focus exact rfl); decide)
        | ((with_reducible apply val_free); (focus exact rfl); (focus k_extra "my mem"); (focus k_asm); (focus exact rfl); (focus exact rfl); decide))
      | ((with_reducible show Val _ _ _ _ _ _ _ _ (PySem.Expr.UnaryOp _ _ _) _); (with_reducible apply val_not); k_extra "my val")
      | (with_reducible exact val_bool)
    k_with "my fn" => first
      | ((with_reducible show Val _ _ _ _ _ _ _ (compEnvC _ _ _ _) _ _); (with_reducible apply val_globC); (focus k_asm); (focus k_asm); (focus k_is); (focus exact rfl); (focus exact rfl); (focus exact rfl); decide)
      | ((with_reducible apply val_glob); (focus exact rfl); (focus k_asm); (focus k_asm); (focus k_is); (focus exact rfl); (focus exact rfl); decide)
    k_with "my arg" => first
      | (with_reducible exact arg_int)
      | (with_reducible exact arg_str)
      | ((with_reducible show Arg _ _ _ _ _ _ _ _ (PySem.Expr.BinOp _ _ _ _) _); (with_reducible apply arg_sub); k_extra "my val")
      | ((with_reducible apply arg_val); k_extra "my val")
    k_with "eval Call" => (k_here; k_dflt ((rename Fr _ _ _ _ => kF); (rename News _ _ _ _ => kN); first
      | ((with_reducible show wpAny _ _ (eval (PySem.Expr.Call (PySem.Expr.Name _ _) [_] [] _) _) _ _ _); apply e_call1 kF kN; (focus k_asm); (focus k_extra "my fn"); (focus k_is); (focus k_extra "my arg"); (focus exact rfl); (focus exact rfl); intro tk' t')
      | ((with_reducible show wpAny _ _ (eval (PySem.Expr.Call (PySem.Expr.Name _ _) [_, _] [] _) _) _ _ _); apply e_call2 kF kN; (focus k_asm); (focus k_extra "my fn"); (focus k_is); (focus k_extra "my arg"); (focus k_extra "my arg"); (focus exact rfl); (focus exact rfl); (focus exact rfl); (focus exact rfl); intro tk' t' u')
      | ((with_reducible show wpAny _ _ (eval (PySem.Expr.Call (PySem.Expr.Name _ _) [_, _, _] [] _) _) _ _ _); apply e_call3 kF kN; (focus k_asm); (focus k_extra "my fn"); (focus k_is); (focus k_extra "my arg"); (focus k_extra "my arg"); (focus k_extra "my arg"); (focus exact rfl); (focus exact rfl); (focus exact rfl); (focus exact rfl); (focus exact rfl); intro tk' t' u' v')))
    k_with "CompEnd" => (k_extra "my split"; k_dflt ((with_reducible apply comp_end); (focus k_asm); (focus k_asm); (focus k_extra "my mem"); (focus k_extra "my mem"); (focus k_extra "my mem"); (focus k_extra "my cut"); (focus (first | exact trivial | ((with_reducible apply src_at); k_extra "my mem") | k_extra "my mem"))))
    k_with "TupSrc" => (k_here; k_dflt ((with_reducible apply TupSrc.ledger); (focus exact rfl); (focus k_asm); (focus k_asm); (focus k_extra "my mem"); (focus (first | exact Nat.le_of_ble_eq_true rfl | size_fits)); intro g'; lcg_lit))
    k_with "subscriptTail" => (k_here; (with_reducible show wpAny _ _ (subscriptTail _ _ (Value.ref _) (Value.int _ _)) _ _ _); k_dflt ((with_reducible apply item_tupleT); (focus ((with_reducible apply News.isTup); (focus k_asm); k_extra "my mem")); (focus decide); (focus decide); (focus exact rfl); (focus exact rfl); k_whole))
    k_with "my cut1" => first
      | ((with_reducible apply Cut1.skip); k_extra "my cut1")
      | ((with_reducible apply Cut1.cons); (focus k_extra "my ne"); k_extra "my cut1")
      | ((with_reducible apply Cut1.base); k_extra "my off1")
    k_with "my above" => first
      | (with_reducible assumption)
      | (with_reducible exact above_nil)
      | ((with_reducible refine above_cons ?_ ?_); (focus with_reducible assumption); k_extra "my above")
      | ((with_reducible refine above_app ?_ ?_) <;> k_extra "my above")
    k_with "my arith" => first
      | (with_reducible assumption)
      | (k_extra "my clean"; omega)
    k_with "my room" => (k_extra "my clean"; omega)
    k_with "my bound" => (k_extra "my clean"; omega)
    k_with "my up" => first
      | (with_reducible exact up_base hC3)
      | ((with_reducible apply up_one); k_extra "my up")
      | ((with_reducible apply up_call); (focus with_reducible assumption); k_extra "my up")
      | ((with_reducible apply up_conv hC3); k_extra "my up")
    k_with "my nn" => first
      | (with_reducible assumption)
      | ((with_reducible apply nn1); k_extra "my nn")
    k_with "my arith" => first
      | (k_extra "my nn")
      | (apply up_A hk1 hC3; k_extra "my up")
      | (apply up_A hc1 hC3; k_extra "my up")
    k_with "my room" => first
      | (apply up_B hk1; k_extra "my up")
      | (apply up_B hc1; k_extra "my up")
    k_with "my bound" => (apply up_C; k_extra "my up")
    k_with "my tst" => first
      | ((with_reducible show Tst _ _ _ _ _ _ _ _ (PySem.Expr.Compare _ [PySem.CmpOp.Eq] [PySem.Expr.Constant (PySem.Const.int _) _ _] _) _); (with_reducible apply tst_eqi); (focus k_extra "my val"); first | exact rfl | exact lt_ne (by assumption) (by decide))
      | ((with_reducible show Tst _ _ _ _ _ _ _ _ (PySem.Expr.Compare _ [PySem.CmpOp.Lt] [PySem.Expr.Constant (PySem.Const.int _) _ _] _) _); (with_reducible apply tst_lti); (focus k_extra "my val"); first | (with_reducible assumption) | exact rfl)
    k_with "binaryOp FloorDiv int int" => (k_here; k_dflt (apply div8; (focus with_reducible assumption); (focus with_reducible assumption)))
    k_with "my first" => (repeat ((fail_if_success (with_reducible show wpAny _ _ (execs (PySem.Stmt.If _ _ _ _ :: _) _) _ _ _)); first | (k_unfold; (try dsimp only)) | walk1 | (dsimp only; walk1)))
    k_with "call ref" => k_extra "my split"; first | ((with_reducible show wpAny _ _ (call (Value.ref 221) [_, Value.int 3 _]) _ _ _); (k_dflt ((apply use_draw); (focus exact hDraw); (focus k_asm); (focus k_asm); (focus k_asm); (focus k_asm); (focus with_reducible assumption); (focus k_extra "my mem"); (focus with_reducible assumption); (focus k_extra "my cut1"); (focus k_asm); (focus (first | exact rfl | assumption)); (focus with_reducible assumption); (focus k_extra "my mem"); (focus with_reducible assumption); (focus decide); (focus decide); (focus k_extra "my arith"); (focus k_extra "my arith"); (focus (exact room2 (dp := dp) (a := 1) hd (Nat.succ_le_succ (Nat.le_trans (by decide : 1 ≤ 20) (Nat.le_add_left _ _))))); (focus (exact units2 (un := un) (a := 1) hu (Nat.succ_le_succ (Nat.le_trans (by decide : 1 ≤ 20) (Nat.le_add_left _ _))))); intro x9 t9 h9 tk9 o9 tk9' tc9' F9 N9 hd9 x90 x91; (try simp only [List.nil_append, List.cons_append] at N9); (try dsimp only); (try k_fold))); (refine idx3 x90 x91 ?_ ?_ ?_ <;> intro e9 <;> subst e9)) | ((with_reducible show wpAny _ _ (call (Value.ref 221) _) _ _ _); (k_dflt ((apply use_draw); (focus exact hDraw); (focus k_asm); (focus k_asm); (focus k_asm); (focus k_asm); (focus with_reducible assumption); (focus k_extra "my mem"); (focus with_reducible assumption); (focus k_extra "my cut1"); (focus k_asm); (focus (first | exact rfl | assumption)); (focus with_reducible assumption); (focus k_extra "my mem"); (focus with_reducible assumption); (focus decide); (focus decide); (focus k_extra "my arith"); (focus k_extra "my arith"); (focus (exact room2 (dp := dp) (a := 1) hd (Nat.succ_le_succ (Nat.le_trans (by decide : 1 ≤ 20) (Nat.le_add_left _ _))))); (focus (exact units2 (un := un) (a := 1) hu (Nat.succ_le_succ (Nat.le_trans (by decide : 1 ≤ 20) (Nat.le_add_left _ _))))); intro x9 t9 h9 tk9 o9 tk9' tc9' F9 N9 hd9 x90 x91; (try simp only [List.nil_append, List.cons_append] at N9); (try dsimp only); (try k_fold)))) | ((with_reducible show wpAny _ _ (call (Value.ref 228) _) _ _ _); (k_dflt (refine' use_F (hAtom _) ?k1 ?k2 ?k3 ?k4 ?kO ?kM ?kY ?kU ?k5 ?kK ?kI ?kL ?kX ?kR ?kS ?b0 ?b1 ?b2 ?b3 ?kd ?ku ?_; (case k1 => k_asm); (case k2 => k_asm); (case k3 => k_asm); (case k4 => k_asm); (case kO => with_reducible assumption); (case kM => k_extra "my mem"); (case kY => with_reducible assumption); (case kU => k_extra "my cut1"); (case k5 => k_asm); (case kK => first | exact rfl | assumption); (case kI => with_reducible assumption); (case kL => k_extra "my mem"); (case kX => with_reducible assumption); (case kR => (refine' ARel.mk ?q0 ?q1; (case q0 => with_reducible assumption); (case q1 => (first | exact nd0 hn | exact nd1 hn | exact nd2 hn | exact nd6 hn | exact dm1 d | (k_extra "my clean"; omega))))); (case kS => k_extra "my sub"); (case b0 => k_extra "my arith"); (case b1 => ((simp only [drawnCost, atomCost, costD]); k_extra "my room")); (case b2 => k_extra "my arith"); (case b3 => ((simp only [drawnCost, atomCost, costD]); k_extra "my room")); (case kd => exact room2 (dp := dp) (a := atomSize _) hd (Nat.succ_le_succ (Nat.le_trans (by decide : 12 ≤ 20) (Nat.le_add_left _ _)))); (case ku => exact units2 (un := un) (a := atomSize _) hu (Nat.succ_le_succ (Nat.le_trans (by decide : 12 ≤ 20) (Nat.le_add_left _ _)))); intro r9 G9 tl9 h9 tk9 o9 k9 c9 tk9' tc9' F9 N9 hd9 hl9 hfd9 hk9 hk9' hc9 hc9' hf9 hz9 hs9; (try simp only [List.forall_mem_cons, List.forall_mem_append] at hl9); (try simp only [List.nil_append, List.cons_append] at N9); (simp only [drawnCost, atomCost, costD] at hk9' hc9'); (try dsimp only); (try k_fold)))) | (k_dflt (refine' use_F (IH (n, d) ?lt) ?k1 ?k2 ?k3 ?k4 ?kO ?kM ?kY ?kU ?k5 ?kK ?kI ?kL ?kX ?kR ?kS ?b0 ?b1 ?b2 ?b3 ?kd ?ku ?_; (case k1 => k_asm); (case k2 => k_asm); (case k3 => k_asm); (case k4 => k_asm); (case kO => with_reducible assumption); (case kM => k_extra "my mem"); (case kY => with_reducible assumption); (case kU => k_extra "my cut1"); (case k5 => k_asm); (case kK => first | exact rfl | assumption); (case kI => with_reducible assumption); (case kL => k_extra "my mem"); (case kX => with_reducible assumption); (case kR => (refine' DnRel.mk ?q0 ?q1 ?q2; (case q0 => with_reducible assumption); (case q1 => (first | exact nd0 hn | exact nd1 hn | exact nd2 hn | exact nd6 hn | exact dm1 d | (k_extra "my clean"; omega))); (case q2 => (first | exact nd0 hn | exact nd1 hn | exact nd2 hn | exact nd6 hn | exact dm1 d | (k_extra "my clean"; omega))))); (case kS => k_extra "my sub"); (case lt => exact Nat.lt_succ_self _); (case b0 => k_extra "my arith"); (case b1 => ((simp only [drawnCost, atomCost, costD]); k_extra "my room")); (case b2 => k_extra "my arith"); (case b3 => ((simp only [drawnCost, atomCost, costD]); k_extra "my room")); (case kd => exact room2 (dp := dp) (a := drawnSize (_, d)) hd (Nat.le_of_eq (Nat.add_right_comm _ _ _))); (case ku => exact units2 (un := un) (a := drawnSize (_, d)) hu (Nat.le_of_eq (Nat.add_right_comm _ _ _))); intro r9 G9 tl9 h9 tk9 o9 k9 c9 tk9' tc9' F9 N9 hd9 hl9 hfd9 hk9 hk9' hc9 hc9' hf9 hz9 hs9; (try simp only [List.forall_mem_cons, List.forall_mem_append] at hl9); (try simp only [List.nil_append, List.cons_append] at N9); (simp only [drawnCost, atomCost, costD] at hk9' hc9'); (try dsimp only); (try k_fold))) | (k_dflt (refine' use_F (IH (n + 1, d) ?lt) ?k1 ?k2 ?k3 ?k4 ?kO ?kM ?kY ?kU ?k5 ?kK ?kI ?kL ?kX (DnRel.mk (NIn.one ?q0) ?q1 ?q2) (Sub.one ?qm Sub.nil) ?b0 ?b1 ?b2 ?b3 ?kd ?ku ?_; (case k1 => k_asm); (case k2 => k_asm); (case k3 => k_asm); (case k4 => k_asm); (case kO => with_reducible assumption); (case kM => k_extra "my mem"); (case kY => with_reducible assumption); (case kU => k_extra "my cut1"); (case k5 => k_asm); (case kK => first | exact rfl | assumption); (case kI => with_reducible assumption); (case kL => k_extra "my mem"); (case kX => with_reducible assumption); (case qm => k_extra "my mem"); (case q1 => (first | exact nd0 hn | exact nd1 hn | exact nd2 hn | exact nd6 hn | exact dm1 d | (k_extra "my clean"; omega))); (case q2 => (first | exact nd0 hn | exact nd1 hn | exact nd2 hn | exact nd6 hn | exact dm1 d | (k_extra "my clean"; omega))); (case q0 => (refine' names_one ?z0 ?z1; (case z0 => with_reducible assumption); (case z1 => (first | exact nd0 hn | exact nd1 hn | exact nd2 hn | exact nd6 hn | exact dm1 d | (k_extra "my clean"; omega))))); (case lt => exact Nat.lt_succ_self _); (case b0 => k_extra "my arith"); (case b1 => ((simp only [drawnCost, atomCost, costD]); k_extra "my room")); (case b2 => k_extra "my arith"); (case b3 => ((simp only [drawnCost, atomCost, costD]); k_extra "my room")); (case kd => exact room2 (dp := dp) (a := drawnSize (_, d)) hd (Nat.le_of_eq (Nat.add_right_comm _ _ _))); (case ku => exact units2 (un := un) (a := drawnSize (_, d)) hu (Nat.le_of_eq (Nat.add_right_comm _ _ _))); intro r9 G9 tl9 h9 tk9 o9 k9 c9 tk9' tc9' F9 N9 hd9 hl9 hfd9 hk9 hk9' hc9 hc9' hf9 hz9 hs9; (try simp only [List.forall_mem_cons, List.forall_mem_append] at hl9); (try simp only [List.nil_append, List.cons_append] at N9); (simp only [drawnCost, atomCost, costD] at hk9' hc9'); (try dsimp only); (try k_fold))) | (k_dflt (refine' use_F (IH (n + 2, d) ?lt) ?k1 ?k2 ?k3 ?k4 ?kO ?kM ?kY ?kU ?k5 ?kK ?kI ?kL ?kX (DnRel.mk (NIn.one ?q0) ?q1 ?q2) (Sub.one ?qm Sub.nil) ?b0 ?b1 ?b2 ?b3 ?kd ?ku ?_; (case k1 => k_asm); (case k2 => k_asm); (case k3 => k_asm); (case k4 => k_asm); (case kO => with_reducible assumption); (case kM => k_extra "my mem"); (case kY => with_reducible assumption); (case kU => k_extra "my cut1"); (case k5 => k_asm); (case kK => first | exact rfl | assumption); (case kI => with_reducible assumption); (case kL => k_extra "my mem"); (case kX => with_reducible assumption); (case qm => k_extra "my mem"); (case q1 => (first | exact nd0 hn | exact nd1 hn | exact nd2 hn | exact nd6 hn | exact dm1 d | (k_extra "my clean"; omega))); (case q2 => (first | exact nd0 hn | exact nd1 hn | exact nd2 hn | exact nd6 hn | exact dm1 d | (k_extra "my clean"; omega))); (case q0 => (refine' names_two ?z0 ?z1 ?z2; (case z0 => with_reducible assumption); (case z1 => (first | exact nd0 hn | exact nd1 hn | exact nd2 hn | exact nd6 hn | exact dm1 d | (k_extra "my clean"; omega))); (case z2 => (first | exact nd0 hn | exact nd1 hn | exact nd2 hn | exact nd6 hn | exact dm1 d | (k_extra "my clean"; omega))))); (case lt => exact Nat.lt_succ_self _); (case b0 => k_extra "my arith"); (case b1 => ((simp only [drawnCost, atomCost, costD]); k_extra "my room")); (case b2 => k_extra "my arith"); (case b3 => ((simp only [drawnCost, atomCost, costD]); k_extra "my room")); (case kd => exact room2 (dp := dp) (a := drawnSize (_, d)) hd (Nat.le_of_eq (Nat.add_right_comm _ _ _))); (case ku => exact units2 (un := un) (a := drawnSize (_, d)) hu (Nat.le_of_eq (Nat.add_right_comm _ _ _))); intro r9 G9 tl9 h9 tk9 o9 k9 c9 tk9' tc9' F9 N9 hd9 hl9 hfd9 hk9 hk9' hc9 hc9' hf9 hz9 hs9; (try simp only [List.forall_mem_cons, List.forall_mem_append] at hl9); (try simp only [List.nil_append, List.cons_append] at N9); (simp only [drawnCost, atomCost, costD] at hk9' hc9'); (try dsimp only); (try k_fold)))
    k_with "eval ListComp" => (k_here; k_dflt (refine' LCg.ListComp_U ?lF ?lc ?ld ?lk ?ln ?lx ?_ ?ls; (case lF => k_asm); (case lc => with_unfolding_all rfl); (case ld => decide); (case lk => rfl); (case ln => decide); (case lx => rfl); (case ls => intro _; rfl)))
    k_with "exec Assign cons ListComp" => (k_here; k_dflt (refine' LCg.Assign_ListComp_U ?lF ?lL ?lw ?lc ?ld ?lk ?ln ?lx ?ly ?lp ?_ ?ls; (case lF => k_asm); (case lL => rfl); (case lw => with_unfolding_all rfl); (case lc => with_unfolding_all rfl); (case ld => decide); (case lk => rfl); (case ln => decide); (case lx => rfl); (case ly => rfl); (case lp => rfl); (case ls => intro _; rfl)))
    k_with "subscriptTail List" => (k_here; (with_reducible show wpAny _ _ (subscriptTail _ (PySem.Expr.Call _ _ _ _) (Value.ref _) (Value.int _ _)) _ _ _); k_dflt (refine' item_sel ?iN ?im x90 x91 ?_; (case iN => k_asm); (case im => k_extra "my mem")); intro t9)
    k_with "CompSrc" => (k_here; k_dflt (first | ((with_reducible apply LCg.CompSrc.range); (focus exact rfl); (focus k_asm); (focus k_asm); (focus assumption); (focus (first | decide | exact rfl)); (focus (first | exact rfl | decide)); (focus exact Nat.le_of_ble_eq_true rfl); intro g'; lcg_lit) | ((with_reducible apply LCg.CompSrc.ledger); (focus exact rfl); (focus k_asm); (focus k_asm); (focus k_extra "my mem"); (focus exact Nat.le_of_ble_eq_true rfl); intro g'; lcg_lit)))
    k_with "binaryOp Add ref ref" => (k_here; k_dflt (refine' names_add ?mF ?mN ?ma ?mv ?mn ?mb ?mw ?_; (case mF => k_asm); (case mN => k_asm); (case mv => exact hvs); (case ma => k_extra "my mem"); (case mn => (k_extra "my clean"; omega)); (case mb => k_extra "my mem"); (case mw => exact Nat.le_of_ble_eq_true rfl)); intro D' h' F' N' l1; (try k_lt l1); (try k_sweep))
    k_with "call builtin:len" => (k_here; (with_reducible show wpAny _ _ (call (Value.builtin "len") [Value.ref _]) _ _ _); (have hLen9 := StrsAre.length hvs); (rw [names_length] at hLen9); k_dflt ((with_reducible apply len_list); (focus (apply News.isList; (focus k_asm); k_extra "my mem")); (focus (k_extra "my clean"; simp only [List.size_toArray]; omega)); k_whole); (try simp only [List.size_toArray, hLen9]))
    refine wpAny_call ?_
    k_dflt ktr_enter
    k_extra "my first"
    k_dflt (apply s_set; (focus exact rfl); (focus k_asm); (focus k_asm); (focus (apply tst_and; (focus (apply tst_ini; (focus k_extra "my val"); (focus exact rfl); (focus exact Nat.le_of_ble_eq_true rfl))); (apply tst_eqi; (focus (apply val_key; (focus k_extra "my val"); (focus k_extra "my mem"); (focus with_reducible assumption); (focus exact rfl); intro _; rfl)); exact rfl))); (focus exact rfl); (focus exact rfl); intro y9 t9' h9' tk9'' hy9 F9' N9'; k_sweep)
    refine way_7 x90 x91 hy9 ?_ ?_ ?_ ?_ ?_ ?_ ?_
    (focus (intro e9; subst e9)); rotate_left
    (focus (intro e9; subst e9)); rotate_left
    (focus (intro e9; subst e9)); rotate_left
    (focus (intro e9; subst e9)); rotate_left
    (focus (intro h4 h6)); rotate_left
    (focus (intro h4 h6 h0 h8)); rotate_left
    (focus (intro e9; subst e9)); rotate_left
    all_goals k_extra "my walk"
    all_goals (
      k_extra "my split"; k_extra "my clean"
      k_dflt (apply leave_M (Out := drawnOut); (focus exact hret); (focus k_asm); (focus k_asm); (focus with_reducible assumption); (focus k_extra "my mem"); (focus k_extra "my ends"); (focus k_extra "my above"); (focus k_extra "my arith"); (focus (simp only [drawnCost, atomCost, costD]; k_extra "my bound")); (focus k_extra "my arith"); (focus (simp only [drawnCost, atomCost, costD]; k_extra "my bound")); first | (refine' ⟨_, ?ff, ?zz, ?ww⟩; (case ff => k_extra "my rel"); (case zz => first | assumption | exact Nat.le_trans (by assumption) (Nat.succ_le_succ (Nat.zero_le _))); (case ww => assumption)) | (refine' ⟨.not _, ?ff, ?zz, ?ww⟩; (case ff => k_extra "my fin"); (case zz => first | exact Nat.succ_le_succ (Nat.zero_le _) | exact Nat.succ_le_succ (by assumption) | exact max_s (by assumption) (by assumption) | (simp only [Form.size]; omega)); (case ww => (first | exact trivial | assumption | (refine And.intro ?_ ?_ <;> assumption) | exact ⟨rfl, Nat.le_of_ble_eq_true rfl, by (k_extra "my clean"; simp only [List.length_cons, List.length_nil]; omega), by assumption⟩))) | (refine' ⟨.con0 _, ?ff, ?zz, ?ww⟩; (case ff => k_extra "my fin"); (case zz => first | exact Nat.succ_le_succ (Nat.zero_le _) | exact Nat.succ_le_succ (by assumption) | exact max_s (by assumption) (by assumption) | (simp only [Form.size]; omega)); (case ww => (first | exact trivial | assumption | (refine And.intro ?_ ?_ <;> assumption) | exact ⟨rfl, Nat.le_of_ble_eq_true rfl, by (k_extra "my clean"; simp only [List.length_cons, List.length_nil]; omega), by assumption⟩))) | (refine' ⟨.con1 _ _, ?ff, ?zz, ?ww⟩; (case ff => k_extra "my fin"); (case zz => first | exact Nat.succ_le_succ (Nat.zero_le _) | exact Nat.succ_le_succ (by assumption) | exact max_s (by assumption) (by assumption) | (simp only [Form.size]; omega)); (case ww => (first | exact trivial | assumption | (refine And.intro ?_ ?_ <;> assumption) | exact ⟨rfl, Nat.le_of_ble_eq_true rfl, by (k_extra "my clean"; simp only [List.length_cons, List.length_nil]; omega), by assumption⟩))) | (refine' ⟨.con2 _ _ _, ?ff, ?zz, ?ww⟩; (case ff => k_extra "my fin"); (case zz => first | exact Nat.succ_le_succ (Nat.zero_le _) | exact Nat.succ_le_succ (by assumption) | exact max_s (by assumption) (by assumption) | (simp only [Form.size]; omega)); (case ww => (first | exact trivial | assumption | (refine And.intro ?_ ?_ <;> assumption) | exact ⟨rfl, Nat.le_of_ble_eq_true rfl, by (k_extra "my clean"; simp only [List.length_cons, List.length_nil]; omega), by assumption⟩))) | (refine' ⟨.imp _ _, ?ff, ?zz, ?ww⟩; (case ff => k_extra "my fin"); (case zz => first | exact Nat.succ_le_succ (Nat.zero_le _) | exact Nat.succ_le_succ (by assumption) | exact max_s (by assumption) (by assumption) | (simp only [Form.size]; omega)); (case ww => (first | exact trivial | assumption | (refine And.intro ?_ ?_ <;> assumption) | exact ⟨rfl, Nat.le_of_ble_eq_true rfl, by (k_extra "my clean"; simp only [List.length_cons, List.length_nil]; omega), by assumption⟩))) | (refine' ⟨.iff _ _, ?ff, ?zz, ?ww⟩; (case ff => k_extra "my fin"); (case zz => first | exact Nat.succ_le_succ (Nat.zero_le _) | exact Nat.succ_le_succ (by assumption) | exact max_s (by assumption) (by assumption) | (simp only [Form.size]; omega)); (case ww => (first | exact trivial | assumption | (refine And.intro ?_ ?_ <;> assumption) | exact ⟨rfl, Nat.le_of_ble_eq_true rfl, by (k_extra "my clean"; simp only [List.length_cons, List.length_nil]; omega), by assumption⟩))) | (refine' ⟨.qu _ n [_] _, ?ff, ?zz, ?ww⟩; (case ff => k_extra "my fin"); (case zz => first | exact Nat.succ_le_succ (Nat.zero_le _) | exact Nat.succ_le_succ (by assumption) | exact max_s (by assumption) (by assumption) | (simp only [Form.size]; omega)); (case ww => (first | exact trivial | assumption | (refine And.intro ?_ ?_ <;> assumption) | exact ⟨rfl, Nat.le_of_ble_eq_true rfl, by (k_extra "my clean"; simp only [List.length_cons, List.length_nil]; omega), by assumption⟩))) | (refine' ⟨.qu _ n [_, _] _, ?ff, ?zz, ?ww⟩; (case ff => k_extra "my fin"); (case zz => first | exact Nat.succ_le_succ (Nat.zero_le _) | exact Nat.succ_le_succ (by assumption) | exact max_s (by assumption) (by assumption) | (simp only [Form.size]; omega)); (case ww => (first | exact trivial | assumption | (refine And.intro ?_ ?_ <;> assumption) | exact ⟨rfl, Nat.le_of_ble_eq_true rfl, by (k_extra "my clean"; simp only [List.length_cons, List.length_nil]; omega), by assumption⟩)))))
end Mine
namespace Mine
theorem rows_ok (w : World) (mean : ExcName → Option Value) (mg mb : Str → Option Value) (d : RowD) :
    Pure w mean mg mb 238 RowRel rowSize (rowOut w) d := by
  have hFill : heap = heap ∧ PySem.Challenge.rw_rr0087_01 = PySem.Challenge.rw_rr0087_01 := by
    k_fill
    exact ⟨rfl, rfl⟩
  clear hFill
  intro dp un gd cn cs a ccd cl outer A₀ base h₀ L m news nr s vs Q E B F X N T hk hs hR hd hu hret
  cases hR
  rename_i u vs n sv k rs S hu0 hD hl2 hk7 hS
  have hS' := hS
  cases hS'
  k_with_none
  k_with "my enter" => first
    | (refine' code_def ?k1_en0 ?k2_en0 ?k3_en0 ?k4_en0 ?k5_en0 ?kA_en0 ?kF_en0 ?kK_en0 ?k6_en0 ?k7_en0 ?k8_en0 ?k9_en0 ?kB_en0 ?_ ?c2_en0 ?c3_en0 ?c4_en0 ?c5_en0; (case kA_en0 => exact rfl); (case kF_en0 => exact rfl); (case kK_en0 => first | exact rfl | assumption); (case k1_en0 => k_asm); (case k2_en0 => k_asm); (case k3_en0 => k_asm); (case k4_en0 => k_asm); (case k5_en0 => k_asm); (case k6_en0 => k_is); (case k7_en0 => k_is); (case k8_en0 => ktr_room); (case k9_en0 => exact BindsTo.of_eq rfl); (case c5_en0 => decide); (case kB_en0 => exact locs rfl); (case c2_en0 => exact rfl); (case c3_en0 => exact rfl); (case c4_en0 => exact rfl); k_whole; intro g' L' h' FG' F' N' B' X' T'; (try dsimp only); (try k_fold))
    | (refine' code_defC ?k1_en1 ?k2_en1 ?k3_en1 ?k4_en1 ?k5_en1 ?kA_en1 ?kF_en1 ?kK_en1 ?k6_en1 ?k7_en1 ?k8_en1 ?k9_en1 ?kB_en1 ?kD_en1 ?_ ?c2_en1 ?c3_en1 ?c4_en1; (case kA_en1 => exact rfl); (case kF_en1 => exact rfl); (case kK_en1 => first | exact rfl | assumption); (case k1_en1 => k_asm); (case k2_en1 => k_asm); (case k3_en1 => k_asm); (case k4_en1 => k_asm); (case k5_en1 => k_asm); (case k6_en1 => k_is); (case k7_en1 => k_is); (case k8_en1 => ktr_room); (case k9_en1 => exact BindsTo.of_eq rfl); (case kB_en1 => exact rfl); (case kD_en1 => decide +kernel); (case c2_en1 => exact rfl); (case c3_en1 => exact rfl); (case c4_en1 => exact rfl); k_whole; intro g' L' h' tk' cells' FG' F' N' Y' B' X' T' l1; (try k_lt l1); (first | (refine cells1 Y' N' ?_; clear Y' N' cells'; intro o1' N' d1') | (refine cells2 Y' N' ?_; clear Y' N' cells'; intro o1' o2' N' d1' d2') | (refine cells3 Y' N' ?_; clear Y' N' cells'; intro o1' o2' o3' N' d1' d2' d3') | (refine cells4 Y' N' ?_; clear Y' N' cells'; intro o1' o2' o3' o4' N' d1' d2' d3' d4')); (repeat ((with_reducible rename (Obj.data _ = Data.cell (bindC _ _ _ _)) => hcl1); (first | (have hcl2 : Obj.data _ = Data.cell (some _) := hcl1) | (have hcl2 : Obj.data _ = Data.cell none := hcl1)); clear hcl1)); (try dsimp only); (try k_fold))
  k_with "my mem" => first
    | (with_reducible assumption)
    | (with_reducible exact List.mem_cons_self)
    | ((with_reducible refine mem_head ?_); exact rfl)
    | ((with_reducible refine List.mem_cons_of_mem _ ?_); k_extra "my mem")
    | ((with_reducible apply Sub.mem); (with_reducible assumption); (with_reducible assumption))
    | ((with_reducible refine List.mem_append.mpr (Or.inl ?_)); k_extra "my mem")
    | ((with_reducible refine List.mem_append.mpr (Or.inr ?_)); k_extra "my mem")
  k_with "my clean" => (repeat ((with_reducible rename (@Ne Nat _ _) => hNe); clear hNe))
  k_with "my split" => (repeat ((with_reducible rename (_ ∧ _) => hAnd); first | ((with_reducible refine (fun hAnd1 hAnd2 hAnd3 hAnd4 hAnd5 hAnd6 hAnd7 hAnd8 hAnd9 hAnd10 hAnd11 hAndR => ?_) (hAnd.1) (hAnd.2.1) (hAnd.2.2.1) (hAnd.2.2.2.1) (hAnd.2.2.2.2.1) (hAnd.2.2.2.2.2.1) (hAnd.2.2.2.2.2.2.1) (hAnd.2.2.2.2.2.2.2.1) (hAnd.2.2.2.2.2.2.2.2.1) (hAnd.2.2.2.2.2.2.2.2.2.1) (hAnd.2.2.2.2.2.2.2.2.2.2.1) (hAnd.2.2.2.2.2.2.2.2.2.2.2)); clear hAnd) | ((with_reducible refine (fun hAnd1 hAnd2 hAnd3 hAnd4 hAnd5 hAnd6 hAnd7 hAndR => ?_) (hAnd.1) (hAnd.2.1) (hAnd.2.2.1) (hAnd.2.2.2.1) (hAnd.2.2.2.2.1) (hAnd.2.2.2.2.2.1) (hAnd.2.2.2.2.2.2.1) (hAnd.2.2.2.2.2.2.2)); clear hAnd) | ((with_reducible refine (fun hAnd1 hAnd2 hAnd3 hAnd4 hAndR => ?_) (hAnd.1) (hAnd.2.1) (hAnd.2.2.1) (hAnd.2.2.2.1) (hAnd.2.2.2.2)); clear hAnd) | ((with_reducible refine (fun hAnd1 hAnd2 hAndR => ?_) (hAnd.1) (hAnd.2.1) (hAnd.2.2)); clear hAnd) | (have hAnd1 := And.left hAnd; have hAnd2 := And.right hAnd; clear hAnd)))
  k_with "my sub" => first
    | (with_reducible exact Sub.refl)
    | (with_reducible assumption)
    | (with_reducible exact Sub.nil)
    | (with_reducible refine Sub.app ?_ ?_ <;> k_extra "my sub")
    | ((with_reducible refine Sub.one ?_ ?_); k_extra "my mem"; k_extra "my sub")
    | ((with_reducible refine Sub.cons ?_); k_extra "my sub")
    | ((with_reducible refine Sub.left ?_); k_extra "my sub")
    | ((with_reducible refine Sub.right ?_); k_extra "my sub")
  k_with "my lt" => first
    | (with_reducible assumption)
    | ((with_reducible refine allLt_of ?_); with_reducible assumption)
    | ((with_reducible apply allLt_app); with_reducible assumption)
    | ((with_reducible apply allLt_app); with_reducible apply allLt_app; with_reducible assumption)
    | ((with_reducible apply allLt_app); with_reducible apply allLt_app; with_reducible apply allLt_app; with_reducible assumption)
    | ((with_reducible apply allLt_app); with_reducible apply allLt_app; with_reducible apply allLt_app; with_reducible apply allLt_app; with_reducible assumption)
    | ((with_reducible apply allLt_app); with_reducible apply allLt_app; with_reducible apply allLt_app; with_reducible apply allLt_app; with_reducible apply allLt_app; with_reducible assumption)
    | ((with_reducible apply allLt_app); with_reducible apply allLt_app; with_reducible apply allLt_app; with_reducible apply allLt_app; with_reducible apply allLt_app; with_reducible apply allLt_app; with_reducible assumption)
    | ((with_reducible apply allLt_app); with_reducible apply allLt_app; with_reducible apply allLt_app; with_reducible apply allLt_app; with_reducible apply allLt_app; with_reducible apply allLt_app; with_reducible apply allLt_app; with_reducible assumption)
  k_with "my ends" => first
    | (with_reducible exact Ends.base)
    | ((with_reducible apply Ends.app); with_reducible assumption)
    | ((with_reducible apply Ends.appR); (focus k_extra "my ends"); with_reducible assumption)
    | ((with_reducible apply Ends.cons); (focus k_extra "my lt"); k_extra "my ends")
    | ((with_reducible apply Ends.skip); k_extra "my ends")
  k_with "my ne" => first
    | (with_reducible assumption)
    | ((with_reducible refine Nat.ne_of_gt ?_); with_reducible assumption)
    | ((with_reducible refine Nat.ne_of_lt ?_); with_reducible assumption)
    | ((with_reducible refine Ne.symm ?_); with_reducible assumption)
    | ((with_reducible refine ne_up1 ?_); with_reducible assumption)
    | ((with_reducible refine ne_up2 ?_); with_reducible assumption)
    | ((with_reducible refine ne_up3 ?_); with_reducible assumption)
  k_with "my kne" => ((refine neN ?_); (try dsimp only); first
    | (k_extra "my ne")
    | exact Nat.ne_of_lt (Nat.lt_succ_self _)
    | exact Nat.ne_of_gt (Nat.lt_succ_self _)
    | exact Nat.ne_of_lt (Nat.lt_succ_of_lt (Nat.lt_succ_self _))
    | exact Nat.ne_of_gt (Nat.lt_succ_of_lt (Nat.lt_succ_self _))
    | ((refine Nat.ne_of_gt (Nat.lt_of_succ_lt ?_)); with_reducible assumption)
    | ((refine Nat.ne_of_gt (Nat.lt_of_succ_lt (Nat.lt_of_succ_lt ?_))); with_reducible assumption))
  k_with "my off" => first
    | (with_reducible assumption)
    | (with_reducible refine off3_lt ?_ ?_ ?_ <;> with_reducible assumption)
    | (with_reducible refine off3_app ?_ ?_ <;> k_extra "my off")
  k_with "my cut" => first
    | ((with_reducible apply Cut.skipI); k_extra "my cut")
    | ((with_reducible apply Cut.skipC); k_extra "my cut")
    | ((with_reducible apply Cut.skipD); k_extra "my cut")
    | ((with_reducible apply Cut.cons); (focus k_extra "my ne"); (focus k_extra "my ne"); (focus k_extra "my ne"); k_extra "my cut")
    | ((with_reducible apply Cut.base); k_extra "my off")
    | ((with_reducible apply Cut.skip); k_extra "my cut")
  k_with "my off1" => first
    | (with_reducible assumption)
    | ((with_reducible refine off1_lt ?_); with_reducible assumption)
    | (with_reducible refine off1_app ?_ ?_ <;> k_extra "my off1")
  k_with "my rel" => first
    | (with_reducible assumption)
    | ((with_reducible apply FIn.mono); (with_reducible assumption); k_extra "my sub")
    | ((with_reducible apply RelIn.mono); (with_reducible assumption); k_extra "my sub")
    | ((with_reducible apply VarIn.mono); (with_reducible assumption); k_extra "my sub")
    | ((with_reducible apply DecsIn.mono); (with_reducible assumption); k_extra "my sub")
    | ((with_reducible apply RelIn.mk); (focus k_extra "my mem"); (refine And.intro ?_ ?_ <;> with_reducible assumption))
    | ((with_reducible apply VarIn.mk); k_extra "my mem")
    | (with_reducible exact DecsIn.nil)
    | ((with_reducible apply DecsIn.cons); (focus ((with_reducible apply DecIn.at); (focus k_extra "my mem"); (focus (k_extra "my clean"; omega)); k_extra "my rel")); k_extra "my rel")
  k_with "my less" => first
    | exact Nat.lt_succ_self _
    | exact Nat.lt_succ_of_le (Nat.le_max_left _ _)
    | exact Nat.lt_succ_of_le (Nat.le_max_right _ _)
  k_with "my fin" => first
    | (k_extra "my rel")
    | ((with_reducible apply FIn.tf); k_extra "my mem")
    | ((with_reducible apply FIn.not); (focus k_extra "my mem"); k_extra "my fin")
    | ((with_reducible apply FIn.con0); (focus k_extra "my mem"); k_extra "my mem")
    | ((with_reducible apply FIn.con1); (focus k_extra "my mem"); (focus k_extra "my mem"); k_extra "my fin")
    | ((with_reducible apply FIn.con2); (focus k_extra "my mem"); (focus k_extra "my mem"); (focus k_extra "my fin"); k_extra "my fin")
    | ((with_reducible apply FIn.imp); (focus k_extra "my mem"); (focus k_extra "my fin"); k_extra "my fin")
    | ((with_reducible apply FIn.iff); (focus k_extra "my mem"); (focus k_extra "my fin"); k_extra "my fin")
    | ((with_reducible apply FIn.qu); (focus k_extra "my mem"); (focus k_extra "my mem"); (focus k_extra "my rel"); k_extra "my fin")
    | ((with_reducible apply FIn.some); (focus k_extra "my mem"); k_extra "my rel")
    | ((with_reducible apply FIn.inn); (focus k_extra "my mem"); (focus k_extra "my rel"); k_extra "my rel")
  k_with "my skip" => first
    | ((with_reducible apply skip_cons); (focus k_extra "my tst"); k_extra "my skip")
    | (with_reducible exact skip_nil)
  k_with "my walk" => (repeat' ((fail_if_success (with_reducible show LeaveK h₀ _ _ _ _ _ _)); first | ((fail_if_success (fail_if_success (with_reducible show wpAny _ _ (eval _ (compEnvC _ _ _ _)) (LCg.CompEnd _ _ _ _ _ _ _ _ _ _ _ _) _ _))); k_fold) | (k_unfold; (try dsimp only)) | walk1 | (dsimp only; walk1)))
  k_with "my steps" => (repeat' (first | ((fail_if_success (fail_if_success (with_reducible show wpAny _ _ (eval _ (compEnvC _ _ _ _)) (LCg.CompEnd _ _ _ _ _ _ _ _ _ _ _ _) _ _))); k_fold) | (k_unfold; (try dsimp only)) | walk1 | (dsimp only; walk1)))
  k_with "my bool" => first
    | ((with_reducible apply sel_one); (focus kernel_rfl!); kernel_rfl!)
    | ((with_reducible apply sel_two); (focus kernel_rfl!); kernel_rfl!)
    | ((with_reducible apply sel_no); (focus kernel_rfl!); kernel_rfl!)
    | ((with_reducible apply sel_in); (focus kernel_rfl!); kernel_rfl!)
    | kernel_rfl!
    | exact rfl
  k_with "my val" => first
    | ((with_reducible show Val _ _ _ _ _ _ _ _ (PySem.Expr.Name _ _) _); first
      | ((with_reducible apply val_local); (focus exact rfl); (focus exact rfl); (focus exact rfl); (focus exact rfl); decide)
      | ((with_reducible apply val_cell); (focus exact rfl); (focus exact rfl); (focus k_extra "my mem"); (focus k_asm); (focus exact rfl); (focus exact rfl); decide))
    | ((with_reducible show Val _ _ _ _ _ _ _ _ (PySem.Expr.Subscript _ _ _) _); (with_reducible apply val_item); (focus k_extra "my val"); (focus k_extra "my mem"); (focus (refine And.intro ?_ ?_; decide; exact rfl)); exact rfl)
    | ((with_reducible show Val _ _ _ _ _ _ _ _ (PySem.Expr.Subscript _ (PySem.Expr.Constant (PySem.Const.int 0) _ _) _) _); (with_reducible apply val_head); (focus k_extra "my val"); (focus with_reducible assumption); k_extra "my mem")
    | ((with_reducible show Val _ _ _ _ _ _ _ _ (PySem.Expr.Compare _ [PySem.CmpOp.Eq] _ _) _); (with_reducible apply val_eq); (focus k_extra "my val"); k_extra "my bool")
    | ((with_reducible show ValH _ _ _ _ _ _ _ _ (PySem.Expr.Compare _ [PySem.CmpOp.In] _ _) _); (with_reducible apply val_in); (focus k_extra "my val"); (focus exact rfl); (focus exact Nat.le_of_ble_eq_true rfl); k_extra "my bool")
  k_with "my tst" => first
    | ((with_reducible show Tst _ _ _ _ _ _ _ _ (PySem.Expr.Compare _ [PySem.CmpOp.In] _ _) _); (with_reducible apply tst_in); (focus k_extra "my val"); (focus exact rfl); (focus exact Nat.le_of_ble_eq_true rfl); k_extra "my bool")
    | ((with_reducible show Tst _ _ _ _ _ _ _ _ (PySem.Expr.Compare _ [PySem.CmpOp.Eq] [PySem.Expr.Constant _ _ _] _) _); (with_reducible apply tst_eq); (focus k_extra "my val"); k_extra "my bool")
    | ((with_reducible show Tst _ _ _ _ _ _ _ _ (PySem.Expr.Compare _ [PySem.CmpOp.NotEq] [PySem.Expr.Constant _ _ _] _) _); first
      | ((with_reducible apply tst_ne_f); (focus k_extra "my val"); k_extra "my bool")
      | ((with_reducible apply tst_ne_t); (focus k_extra "my val"); k_extra "my bool"))
    | ((with_reducible show Tst _ _ _ _ _ _ _ _ (PySem.Expr.Compare _ [PySem.CmpOp.Eq] [PySem.Expr.Name _ _] _) _); (with_reducible apply tst_eqb); (focus k_extra "my val"); (focus k_extra "my val"); exact rfl)
    | ((with_reducible show Tst _ _ _ _ _ _ _ _ (PySem.Expr.BoolOp _ _ _) _); first
      | ((with_reducible apply tst_or_no); (focus k_extra "my tst"); k_extra "my tst")
      | ((with_reducible apply tst_or_yes); k_extra "my tst"))
    | ((with_reducible show Tst _ _ _ _ _ _ _ _ (PySem.Expr.Name _ _) _); (with_reducible apply tst_val); (focus k_extra "my val"); intro _; rfl)
  k_with "execs cons If" => (k_here; k_dflt ((rename Fr _ _ _ _ => kF); (rename News _ _ _ _ => kN); first
    | (apply skip_use kF kN; (focus ((with_reducible apply skip_cons); (focus k_extra "my tst"); k_extra "my skip")); intro h' tk' F' N'; k_sweep)
    | ((with_reducible show wpAny _ _ (execs (PySem.Stmt.If _ [PySem.Stmt.Return (some _) _] _ _ :: _) _) _ _ _); refine s_yes kF kN ?_ ?_; (focus k_extra "my tst"); intro h' tk' F' N'; k_sweep)
    | (refine s_yes2 kF kN ?_ ?_; (focus k_extra "my tst"); intro h' tk' F' N'; k_sweep)))
  k_with "execs cons Return" => (k_here; with_reducible refine s_ret ?_)
  k_with "execs cons Assign" => (k_here; (with_reducible show wpAny _ _ (execs (PySem.Stmt.Assign [PySem.Expr.Name _ _] (PySem.Expr.Subscript _ (PySem.Expr.Constant _ _ _) _) _ :: _) _) _ _ _); k_dflt ((with_reducible apply s_let); (focus exact rfl); (focus k_asm); (focus k_asm); (focus k_extra "my val"); (focus exact rfl); (focus exact rfl); (focus exact rfl); intro h' tk' F' N'; k_sweep))
  k_with "ite" => first
    | (k_dflt (refine ite_pos ?_ ?_; (focus decide)))
    | (k_dflt (refine ite_neg ?_ ?_; (focus decide)))
    | (with_reducible refine ite_dec ?_ ?_ <;> intro _)
  k_with "eval Subscript" => (k_here; (with_reducible show wpAny _ _ (eval (PySem.Expr.Subscript _ (PySem.Expr.Constant _ _ _) _) _) _ _ _); k_dflt ((rename Fr _ _ _ _ => kF); (rename News _ _ _ _ => kN); apply e_val kF kN; (focus k_extra "my val"); intro tk'))
  k_with "eval Compare" => (k_here; k_dflt ((rename Fr _ _ _ _ => kF); (rename News _ _ _ _ => kN); first
    | ((with_reducible show wpAny _ _ (eval (PySem.Expr.Compare _ [PySem.CmpOp.In] _ _) _) _ _ _); apply e_valH kF kN; (focus k_extra "my val"); intro h' tk' F' N'; k_sweep)
    | (apply e_val kF kN; (focus k_extra "my val"); intro tk')))
  k_with "eval IfExp" => (k_here; k_dflt ((rename Fr _ _ _ _ => kF); (rename News _ _ _ _ => kN); first
    | ((with_reducible show wpAny _ _ (eval (PySem.Expr.IfExp _ (PySem.Expr.Constant (PySem.Const.str _) _ _) (PySem.Expr.Constant (PySem.Const.str _) _ _) _) _) _ _ _); apply e_sel kF kN; (focus k_extra "my tst"); intro h' tk' t' F' N'; k_sweep)
    | (refine e_no kF kN ?_ ?_; (focus k_extra "my tst"); intro h' tk' F' N'; k_sweep)
    | (refine e_yes kF kN ?_ ?_; (focus k_extra "my tst"); intro h' tk' F' N'; k_sweep)
    | (refine' e_if kF kN ?_ ?_ ?_; rotate_left; (focus k_extra "my tst"); (intro hc h' tk' F' N'; k_sweep); rotate_left; (intro hc h' tk' F' N'; k_sweep))))
  k_with "my val" => first
    | ((with_reducible show Val _ _ _ _ _ _ _ (compEnvC _ _ _ _) (PySem.Expr.Name _ _) _); first
      | ((with_reducible apply val_own); (focus k_extra "my mem"); (focus with_reducible assumption); (focus with_reducible assumption); (focus exact rfl); (focus exact rfl); decide)
      | ((with_reducible apply val_free); (focus exact rfl); (focus k_extra "my mem"); (focus k_asm); (focus exact rfl); (focus exact rfl); decide))
    | ((with_reducible show Val _ _ _ _ _ _ _ _ (PySem.Expr.UnaryOp _ _ _) _); (with_reducible apply val_not); k_extra "my val")
    | (with_reducible exact val_bool)
  k_with "my fn" => first
    | ((with_reducible show Val _ _ _ _ _ _ _ (compEnvC _ _ _ _) _ _); (with_reducible apply val_globC); (focus k_asm); (focus k_asm); (focus k_is); (focus exact rfl); (focus exact rfl); (focus exact rfl); decide)
    | ((with_reducible apply val_glob); (focus exact rfl); (focus k_asm); (focus k_asm); (focus k_is); (focus exact rfl); (focus exact rfl); decide)
  k_with "my arg" => first
    | (with_reducible exact arg_int)
    | (with_reducible exact arg_str)
    | ((with_reducible show Arg _ _ _ _ _ _ _ _ (PySem.Expr.BinOp _ _ _ _) _); (with_reducible apply arg_sub); k_extra "my val")
    | ((with_reducible apply arg_val); k_extra "my val")
  k_with "eval Call" => (k_here; k_dflt ((rename Fr _ _ _ _ => kF); (rename News _ _ _ _ => kN); first
    | ((with_reducible show wpAny _ _ (eval (PySem.Expr.Call (PySem.Expr.Name _ _) [_] [] _) _) _ _ _); apply e_call1 kF kN; (focus k_asm); (focus k_extra "my fn"); (focus k_is); (focus k_extra "my arg"); (focus exact rfl); (focus exact rfl); intro tk' t')
    | ((with_reducible show wpAny _ _ (eval (PySem.Expr.Call (PySem.Expr.Name _ _) [_, _] [] _) _) _ _ _); apply e_call2 kF kN; (focus k_asm); (focus k_extra "my fn"); (focus k_is); (focus k_extra "my arg"); (focus k_extra "my arg"); (focus exact rfl); (focus exact rfl); (focus exact rfl); (focus exact rfl); intro tk' t' u')
    | ((with_reducible show wpAny _ _ (eval (PySem.Expr.Call (PySem.Expr.Name _ _) [_, _, _] [] _) _) _ _ _); apply e_call3 kF kN; (focus k_asm); (focus k_extra "my fn"); (focus k_is); (focus k_extra "my arg"); (focus k_extra "my arg"); (focus k_extra "my arg"); (focus exact rfl); (focus exact rfl); (focus exact rfl); (focus exact rfl); (focus exact rfl); intro tk' t' u' v')))
  k_with "CompEnd" => (k_extra "my split"; k_dflt ((with_reducible apply comp_end); (focus k_asm); (focus k_asm); (focus k_extra "my mem"); (focus k_extra "my mem"); (focus k_extra "my mem"); (focus k_extra "my cut"); (focus (first | exact trivial | ((with_reducible apply src_at); k_extra "my mem") | k_extra "my mem"))))
  k_with "TupSrc" => (k_here; k_dflt ((with_reducible apply TupSrc.ledger); (focus exact rfl); (focus k_asm); (focus k_asm); (focus k_extra "my mem"); (focus (first | exact Nat.le_of_ble_eq_true rfl | size_fits)); intro g'; lcg_lit))
  k_with "subscriptTail" => (k_here; (with_reducible show wpAny _ _ (subscriptTail _ _ (Value.ref _) (Value.int _ _)) _ _ _); k_dflt ((with_reducible apply item_tupleT); (focus ((with_reducible apply News.isTup); (focus k_asm); k_extra "my mem")); (focus decide); (focus decide); (focus exact rfl); (focus exact rfl); k_whole))
  k_with "my cut1" => first
    | ((with_reducible apply Cut1.skip); k_extra "my cut1")
    | ((with_reducible apply Cut1.cons); (focus k_extra "my ne"); k_extra "my cut1")
    | ((with_reducible apply Cut1.base); k_extra "my off1")
  k_with "my above" => first
    | (with_reducible assumption)
    | (with_reducible exact above_nil)
    | ((with_reducible refine above_cons ?_ ?_); (focus with_reducible assumption); k_extra "my above")
    | ((with_reducible refine above_app ?_ ?_) <;> k_extra "my above")
  k_with "my ord" => first
    | (with_reducible assumption)
    | ((with_reducible refine ordU ?_ ?_) <;> k_extra "my ord")
  k_with "my lt" => ((with_reducible apply allLt_cons); (focus with_reducible assumption); k_extra "my lt")
  k_with "my ends" => first
    | (with_reducible exact Ends.base)
    | ((with_reducible apply Ends.app); k_extra "my ord")
    | ((with_reducible apply Ends.appR); (focus k_extra "my ends"); k_extra "my ord")
    | ((with_reducible apply Ends.cons); (focus k_extra "my lt"); k_extra "my ends")
    | ((with_reducible apply Ends.skip); k_extra "my ends")
  k_with "my ends" => ((with_reducible apply Ends.two); (focus k_extra "my ends"); k_extra "my above")
  k_with "my off1" => first
    | (with_reducible assumption)
    | ((with_reducible refine off1_lt ?_); with_reducible assumption)
    | ((with_reducible refine off1_all ?_); k_extra "my lt")
    | ((with_reducible refine off1_up ?_ (Nat.le_add_right _ 1)); k_extra "my lt")
    | ((with_reducible refine off1_up ?_ (Nat.le_succ_of_le (Nat.le_add_right _ 1))); k_extra "my lt")
    | ((with_reducible refine off1_up ?_ (Nat.le_succ_of_le (Nat.le_succ_of_le (Nat.le_add_right _ 1)))); k_extra "my lt")
    | ((with_reducible refine off1_app ?_ ?_) <;> k_extra "my off1")
  k_with "storeName" => (k_here; k_dflt (refine' store_cell ?F_r1 ?N_r1 ?c_r1 ?m_r1 ?k_r1 ?d_r1 ?_ ?a_r1 ?b_r1; (case a_r1 => rfl); (case b_r1 => rfl); (case c_r1 => rfl); (case F_r1 => k_asm); (case N_r1 => k_asm); (case m_r1 => k_extra "my mem"); (case k_r1 => k_extra "my cut1"); (case d_r1 => with_reducible assumption); k_whole); intro h' o' F' N' d'; (try dsimp only at N'); (try k_sweep))
  k_with "eval Dict cons cons" => (k_here; k_dflt (first
    | (refine' star_pair (knd := PySem.strKind _ _) ?F_r2 ?N_r2 ?sys_r2 ?_; (case F_r2 => k_asm); (case N_r2 => k_asm); (case sys_r2 => refine' sys_low ?T_r2 ?F_r2; (case T_r2 => k_asm); (case F_r2 => k_asm)))
    | (refine' star_two (knd := PySem.strKind _ _) ?F_r3 ?N_r3 ?sys_r3 ?_; (case F_r3 => k_asm); (case N_r3 => k_asm); (case sys_r3 => refine' sys_low ?T_r3 ?F_r3; (case T_r3 => k_asm); (case F_r3 => k_asm)))); intro d' h' F' N' l1 lo'; (try k_lt l1); (try k_sweep))
  k_with "Star1" => (k_extra "my split"; k_dflt (refine' star1 ?F_r4 ?N_r4 ?d_r4 ?e_r4 ?k_r4 ?m_r4 ?y_r4 ?l_r4 ?_; (case F_r4 => k_asm); (case N_r4 => k_asm); (case e_r4 => k_extra "my mem"); (case k_r4 => k_extra "my cut1"); (case m_r4 => refine' Sub.mem ?sm_r4 ?sn_r4; (case sn_r4 => with_reducible assumption); (case sm_r4 => k_extra "my sub")); (case y_r4 => with_reducible assumption); (case d_r4 => with_reducible assumption); (case l_r4 => with_reducible assumption)); intro o' sub' h' tk' d' F' N' off' l1 lt'; (try k_lt l1); (try k_sweep))
  k_with "Star2" => (k_extra "my split"; k_dflt (refine' star2 ?hk_r5 ?F_r5 ?N_r5 ?s_r5 ?e_r5 ?k_r5 ?k1_r5 ?_; (case hk_r5 => exact strKind_is _ _ _ _); (case F_r5 => k_asm); (case N_r5 => k_asm); (case s_r5 => k_extra "my mem"); (case e_r5 => k_extra "my mem"); (case k_r5 => k_extra "my cut1"); (case k1_r5 => k_extra "my cut1")); intro o' h' tk' d' F' N' off')
  k_with "TurnRest" => k_dflt (first
    | (refine TurnRest.cons ?_; intro it' h' tk' F' N' off'; (try simp only [LCg.Off1] at off'); (try simp only [List.cons_append, List.nil_append] at N'))
    | (refine TurnRest.nil ?_; intro h' tk' F' N'; (try simp only [List.cons_append, List.nil_append] at N')))
  k_with "TurnPost" => (dsimp only [TurnPost])
  k_with "TurnEnd" => (k_extra "my split"; k_dflt (refine' turn_end ?F_r6 ?N_r6 ?i_r6 ?k_r6 ?e_r6 ?_; (case F_r6 => k_asm); (case N_r6 => k_asm); (case i_r6 => k_extra "my mem"); (case k_r6 => k_extra "my cut1"); (case e_r6 => k_extra "my mem")))
  k_with "execs cons" => ((try k_fold); (with_reducible refine wpAny_execs_cons ?_); try dsimp only)
  k_with "exec For Tuple Name cons nil" => (k_here; (rename Fr _ _ _ _ => lF'); k_dflt (refine' For_turns lF' ?_ ?hs9_l1; (case hs9_l1 => intro _; rfl); k_whole))
  k_with "pyIter ref" => (k_here; k_dflt (refine' for_tup ?t1_l2 ?t2_l2 ?t3_l2 ?t4_l2 ?_; (case t1_l2 => rfl); (case t2_l2 => k_asm); (case t3_l2 => k_asm); (case t4_l2 => k_extra "my mem")); intro I9 hI9; (try k_lt hI9))
  k_with "exec Assign cons ListComp" => (k_here; (rename Fr _ _ _ _ => lF'); k_dflt (refine' two_Assign lF' ?hL_l3 ?sw_l3 ?hc_l3 ?hd_l3 ?hk_l3 ?hn_l3 ?xy_l3 ?hx_l3 ?hy_l3 ?hz_l3 ?hp_l3 ?_ ?s1_l3 ?s2_l3; (case hL_l3 => rfl); (case sw_l3 => with_unfolding_all rfl); (case hc_l3 => with_unfolding_all rfl); (case hd_l3 => decide); (case hk_l3 => rfl); (case hn_l3 => decide); (case xy_l3 => decide); (case hx_l3 => rfl); (case hy_l3 => rfl); (case hz_l3 => rfl); (case hp_l3 => rfl); (case s1_l3 => intro _; rfl); (case s2_l3 => intro _ _; rfl)))
  k_with "subscriptTail Name Subscript" => (k_here; k_dflt (refine' item_sets ?N_l4 hS ?s_l4 ?r_l4 ?_; (case N_l4 => k_asm); (case s_l4 => k_extra "my sub"); (case r_l4 => first | (with_reducible assumption) | exact ⟨by assumption, by assumption⟩)); intro v9 hv9)
  refine wpAny_call ?_
  k_dflt ktr_enter
  (repeat ((fail_if_success (with_reducible show TurnRest _ _ _ _ _ _ _ _ _ _ _ _ _ _ _)); first | (k_unfold; (try dsimp only)) | walk1 | (dsimp only; walk1)))
  cases hD
  case nil =>
    k_extra "my walk"
    k_extra "my split"
    k_dflt (apply leave_P (Out := rowOut w); (focus exact hret); (focus k_asm); (focus k_asm); (focus k_extra "my ends"))
    exact ⟨_, _, _, rfl, by k_extra "my mem", RowsIn.cons (.mk (by k_extra "my mem") (by assumption) (by assumption) .nil (by simp; omega)) .nil⟩
  case cons v r vs rs hd1 hDs =>
    have hr : isRel r := by cases hd1 with | mk _ g => exact g.rel
    have hrl := hS.le hr
    cases hd1
    rename_i hrel
    cases hrel
    k_with "TwoSrc" => ((k_dflt (refine' rows_src (w := w) (xs := S r) (es := [[]]) (n := k) (len := 0) ?t1_a ?t2_a ?t3_a ?t4_a ?t5_a ?t6_a ?t7_a ?t8_a ?to_a ?ti_a ?tf_a; (case t1_a => rfl); (case t2_a => k_asm); (case t3_a => k_asm); (case t4_a => k_extra "my mem"); (case t5_a => exact RowsIn.cons (.mk (by k_extra "my mem") (by assumption) (by assumption) .nil (by simp; omega)) .nil); (case t6_a => exact Nat.le_trans (grow_le (a := 1) (b := 2) (by simp) hrl) (by decide)); (case t7_a => omega); (case t8_a => intro e he; simp at he; subst he; rfl))); (case to_a => (intro v9 e9 ys9 tl9 I9 oI9 C9 oC9 D9 m9 h9 tk9 E9 hd9 ho9 hC9 hx9 F9 N9 off9 ne9; (try simp only [List.nil_append, List.cons_append] at N9); k_extra "my steps"; (k_dflt (refine' rows_set ?v_a ?s_a; (case v_a => with_reducible assumption); (case s_a => k_extra "my sub"))))); (case ti_a => (intro v9 e9 a9 t9 ys9 tl9 J9 oJ9 I9 oI9 C9 oC9 D9 m9 h9 tk9 E9 hd9 hl9 ho9 hC9 hx9 hy9 F9 N9 off9 offJ9 ne9 neJ9; (try simp only [List.forall_mem_cons, List.forall_mem_append] at ho9); (try simp only [List.nil_append, List.cons_append] at N9); (try simp only [List.cons_append, List.nil_append, LCg.Off3, LCg.Off1] at off9); (try simp only [List.cons_append, List.nil_append, LCg.Off3, LCg.Off1] at offJ9); cases hd9; rename_i a0 o0 kvs0 dm0 dy0 dd0 dk0 dl0; (have hkl0 := dk0.le dl0); k_extra "my steps"; k_extra "my split"; (k_dflt (refine' rows_end ?F_a ?N_a ?i2_a ?i_a ?c_a ?d_a ?k_a ?k1_a ?en_a ?hs_a ?hd_a; (case F_a => k_asm); (case N_a => k_asm); (case i2_a => k_extra "my mem"); (case i_a => k_extra "my mem"); (case c_a => k_extra "my mem"); (case d_a => k_extra "my mem"); (case k_a => k_extra "my cut"); (case k1_a => k_extra "my cut1"); (case en_a => k_extra "my ends"); (case hs_a => k_extra "my sub"); (case hd_a => refine' din_store dk0 hl9 ?a_a ?b_a ?c_a ?d_a; (case b_a => assumption); (case a_a => omega); (case c_a => k_extra "my mem"); (case d_a => with_reducible assumption)))))); (case' tf_a => intro g9 ys9 tl9 hr9 ho9); (try simp only [List.forall_mem_cons, List.forall_mem_append] at ho9); intro D9 h9 tk9 lD9 F9 N9 off9; k_lt lD9; (try simp only [List.nil_append, List.cons_append] at N9))
    walk1
    (repeat ((fail_if_success (with_reducible show TurnRest _ _ _ _ _ _ _ _ _ _ _ _ _ _ _)); first | (k_unfold; (try dsimp only)) | walk1 | (dsimp only; walk1)))
    cases hDs
    case nil =>
      k_extra "my walk"
      k_extra "my split"
      k_dflt (apply leave_P (Out := rowOut w); (focus exact hret); (focus k_asm); (focus k_asm); (focus k_extra "my ends"))
      exact ⟨_, _, _, rfl, by k_extra "my mem", RowsIn.mono hr9 (by k_extra "my sub")⟩
    case cons v' r' vs rs hd2 hDs =>
      cases hDs
      case cons => exact absurd hl2 (by simp only [List.length_cons]; omega)
      have hr' : isRel r' := by cases hd2 with | mk _ g => exact g.rel
      have hrl' := hS.le hr'
      replace hk7 : k + 2 ≤ 7 := hk7
      cases hd2
      rename_i hrel
      cases hrel
      k_with "TwoSrc" => ((k_dflt (refine' rows_src (w := w) (xs := S r') (es := grow [[]] (S r)) (n := k) (len := 1) ?t1b_b ?t2b_b ?t3b_b ?t4b_b ?t5b_b ?t6b_b ?t7b_b ?t8b_b ?tob_b ?tib_b ?tfb_b; (case t1b_b => rfl); (case t2b_b => k_asm); (case t3b_b => k_asm); (case t4b_b => k_extra "my mem"); (case t5b_b => exact RowsIn.mono hr9 (by k_extra "my sub")); (case t6b_b => exact Nat.le_trans (grow_le (grow_le (a := 1) (b := 2) (by simp) hrl) hrl') (by decide)); (case t7b_b => omega); (case t8b_b => exact grow_mem (by intro e he; simp at he; subst he; rfl)))); (case tob_b => (intro v9 e9 ys9 tl9 I9 oI9 C9 oC9 D9 m9 h9 tk9 E9 hd9 ho9 hC9 hx9 F9 N9 off9 ne9; (try simp only [List.nil_append, List.cons_append] at N9); k_extra "my steps"; (k_dflt (refine' rows_set ?v_b ?s_b; (case v_b => with_reducible assumption); (case s_b => k_extra "my sub"))))); (case tib_b => (intro v9 e9 a9 t9 ys9 tl9 J9 oJ9 I9 oI9 C9 oC9 D9 m9 h9 tk9 E9 hd9 hl9 ho9 hC9 hx9 hy9 F9 N9 off9 offJ9 ne9 neJ9; (try simp only [List.forall_mem_cons, List.forall_mem_append] at ho9); (try simp only [List.nil_append, List.cons_append] at N9); (try simp only [List.cons_append, List.nil_append, LCg.Off3, LCg.Off1] at off9); (try simp only [List.cons_append, List.nil_append, LCg.Off3, LCg.Off1] at offJ9); cases hd9; rename_i a0 o0 kvs0 dm0 dy0 dd0 dk0 dl0; (have hkl0 := dk0.le dl0); k_extra "my steps"; k_extra "my split"; (k_dflt (refine' rows_end ?F_b ?N_b ?i2_b ?i_b ?c_b ?d_b ?k_b ?k1_b ?en_b ?hs_b ?hd_b; (case F_b => k_asm); (case N_b => k_asm); (case i2_b => k_extra "my mem"); (case i_b => k_extra "my mem"); (case c_b => k_extra "my mem"); (case d_b => k_extra "my mem"); (case k_b => k_extra "my cut"); (case k1_b => k_extra "my cut1"); (case en_b => k_extra "my ends"); (case hs_b => k_extra "my sub"); (case hd_b => refine' din_store dk0 hl9 ?a_b ?b_b ?c_b ?d_b; (case b_b => assumption); (case a_b => omega); (case c_b => k_extra "my mem"); (case d_b => with_reducible assumption)))))); (case' tfb_b => intro g9 ys9 tl9 hr9 ho9); (try simp only [List.forall_mem_cons, List.forall_mem_append] at ho9); intro D9 h9 tk9 lD9 F9 N9 off9; k_lt lD9; (try simp only [List.nil_append, List.cons_append] at N9))
      k_extra "my walk"
      k_extra "my split"
      k_dflt (apply leave_P (Out := rowOut w); (focus exact hret); (focus k_asm); (focus k_asm); (focus k_extra "my ends"))
      exact ⟨_, _, _, rfl, by k_extra "my mem", RowsIn.mono hr9 (by k_extra "my sub")⟩
end Mine
namespace Mine
theorem plus20 {a b : Nat} (h : a < b) : a + 20 < b + 20 := Nat.add_lt_add_right h 20
theorem holds_ok (w : World) (mean : ExcName → Option Value) (mg mb : Str → Option Value) (d : HoldD) :
    Pure w mean mg mb 245 (HoldRel w) holdSize holdOut d := by
  have hRows := rows_ok w mean mg mb
  have hFill : heap = heap ∧ PySem.Challenge.rw_rr0087_01 = PySem.Challenge.rw_rr0087_01 := by
    k_fill
    exact ⟨rfl, rfl⟩
  clear hFill
  revert d
  refine pure_of fun d IH => ?_
  intro dp un gd cn cs a ccd cl outer A₀ base h₀ L m news nr s vs Q E B F X N T hk hs hR hd hu hret
  cases hR
  rename_i fv sv ev f S e hF hS hE hsc
  have hS' := hS
  have hE' := hE
  cases hS'
  cases hE'
  rename_i ae oe kvse hme hye hde hkv hle
  have hkle := hkv.le hle
  obtain ⟨a9, t9, r9, n9, hv9, hm9⟩ := hF.head
  k_with_none
  k_with "my enter" => first
    | (refine' code_def ?k1_en0 ?k2_en0 ?k3_en0 ?k4_en0 ?k5_en0 ?kA_en0 ?kF_en0 ?kK_en0 ?k6_en0 ?k7_en0 ?k8_en0 ?k9_en0 ?kB_en0 ?_ ?c2_en0 ?c3_en0 ?c4_en0 ?c5_en0; (case kA_en0 => exact rfl); (case kF_en0 => exact rfl); (case kK_en0 => first | exact rfl | assumption); (case k1_en0 => k_asm); (case k2_en0 => k_asm); (case k3_en0 => k_asm); (case k4_en0 => k_asm); (case k5_en0 => k_asm); (case k6_en0 => k_is); (case k7_en0 => k_is); (case k8_en0 => ktr_room); (case k9_en0 => exact BindsTo.of_eq rfl); (case c5_en0 => decide); (case kB_en0 => exact locs rfl); (case c2_en0 => exact rfl); (case c3_en0 => exact rfl); (case c4_en0 => exact rfl); k_whole; intro g' L' h' FG' F' N' B' X' T'; (try dsimp only); (try k_fold))
    | (refine' code_defC ?k1_en1 ?k2_en1 ?k3_en1 ?k4_en1 ?k5_en1 ?kA_en1 ?kF_en1 ?kK_en1 ?k6_en1 ?k7_en1 ?k8_en1 ?k9_en1 ?kB_en1 ?kD_en1 ?_ ?c2_en1 ?c3_en1 ?c4_en1; (case kA_en1 => exact rfl); (case kF_en1 => exact rfl); (case kK_en1 => first | exact rfl | assumption); (case k1_en1 => k_asm); (case k2_en1 => k_asm); (case k3_en1 => k_asm); (case k4_en1 => k_asm); (case k5_en1 => k_asm); (case k6_en1 => k_is); (case k7_en1 => k_is); (case k8_en1 => ktr_room); (case k9_en1 => exact BindsTo.of_eq rfl); (case kB_en1 => exact rfl); (case kD_en1 => decide +kernel); (case c2_en1 => exact rfl); (case c3_en1 => exact rfl); (case c4_en1 => exact rfl); k_whole; intro g' L' h' tk' cells' FG' F' N' Y' B' X' T' l1; (try k_lt l1); (first | (refine cells1 Y' N' ?_; clear Y' N' cells'; intro o1' N' d1') | (refine cells2 Y' N' ?_; clear Y' N' cells'; intro o1' o2' N' d1' d2') | (refine cells3 Y' N' ?_; clear Y' N' cells'; intro o1' o2' o3' N' d1' d2' d3') | (refine cells4 Y' N' ?_; clear Y' N' cells'; intro o1' o2' o3' o4' N' d1' d2' d3' d4')); (repeat ((with_reducible rename (Obj.data _ = Data.cell (bindC _ _ _ _)) => hcl1); (first | (have hcl2 : Obj.data _ = Data.cell (some _) := hcl1) | (have hcl2 : Obj.data _ = Data.cell none := hcl1)); clear hcl1)); (try dsimp only); (try k_fold))
  k_with "my mem" => first
    | (with_reducible assumption)
    | (with_reducible exact List.mem_cons_self)
    | ((with_reducible refine mem_head ?_); exact rfl)
    | ((with_reducible refine List.mem_cons_of_mem _ ?_); k_extra "my mem")
    | ((with_reducible apply Sub.mem); (with_reducible assumption); (with_reducible assumption))
    | ((with_reducible refine List.mem_append.mpr (Or.inl ?_)); k_extra "my mem")
    | ((with_reducible refine List.mem_append.mpr (Or.inr ?_)); k_extra "my mem")
  k_with "my clean" => (repeat ((with_reducible rename (@Ne Nat _ _) => hNe); clear hNe))
  k_with "my split" => (repeat ((with_reducible rename (_ ∧ _) => hAnd); first | ((with_reducible refine (fun hAnd1 hAnd2 hAnd3 hAnd4 hAnd5 hAnd6 hAnd7 hAnd8 hAnd9 hAnd10 hAnd11 hAndR => ?_) (hAnd.1) (hAnd.2.1) (hAnd.2.2.1) (hAnd.2.2.2.1) (hAnd.2.2.2.2.1) (hAnd.2.2.2.2.2.1) (hAnd.2.2.2.2.2.2.1) (hAnd.2.2.2.2.2.2.2.1) (hAnd.2.2.2.2.2.2.2.2.1) (hAnd.2.2.2.2.2.2.2.2.2.1) (hAnd.2.2.2.2.2.2.2.2.2.2.1) (hAnd.2.2.2.2.2.2.2.2.2.2.2)); clear hAnd) | ((with_reducible refine (fun hAnd1 hAnd2 hAnd3 hAnd4 hAnd5 hAnd6 hAnd7 hAndR => ?_) (hAnd.1) (hAnd.2.1) (hAnd.2.2.1) (hAnd.2.2.2.1) (hAnd.2.2.2.2.1) (hAnd.2.2.2.2.2.1) (hAnd.2.2.2.2.2.2.1) (hAnd.2.2.2.2.2.2.2)); clear hAnd) | ((with_reducible refine (fun hAnd1 hAnd2 hAnd3 hAnd4 hAndR => ?_) (hAnd.1) (hAnd.2.1) (hAnd.2.2.1) (hAnd.2.2.2.1) (hAnd.2.2.2.2)); clear hAnd) | ((with_reducible refine (fun hAnd1 hAnd2 hAndR => ?_) (hAnd.1) (hAnd.2.1) (hAnd.2.2)); clear hAnd) | (have hAnd1 := And.left hAnd; have hAnd2 := And.right hAnd; clear hAnd)))
  k_with "my sub" => first
    | (with_reducible exact Sub.refl)
    | (with_reducible assumption)
    | (with_reducible exact Sub.nil)
    | (with_reducible refine Sub.app ?_ ?_ <;> k_extra "my sub")
    | ((with_reducible refine Sub.one ?_ ?_); k_extra "my mem"; k_extra "my sub")
    | ((with_reducible refine Sub.cons ?_); k_extra "my sub")
    | ((with_reducible refine Sub.left ?_); k_extra "my sub")
    | ((with_reducible refine Sub.right ?_); k_extra "my sub")
  k_with "my lt" => first
    | (with_reducible assumption)
    | ((with_reducible refine allLt_of ?_); with_reducible assumption)
    | ((with_reducible apply allLt_app); with_reducible assumption)
    | ((with_reducible apply allLt_app); with_reducible apply allLt_app; with_reducible assumption)
    | ((with_reducible apply allLt_app); with_reducible apply allLt_app; with_reducible apply allLt_app; with_reducible assumption)
    | ((with_reducible apply allLt_app); with_reducible apply allLt_app; with_reducible apply allLt_app; with_reducible apply allLt_app; with_reducible assumption)
    | ((with_reducible apply allLt_app); with_reducible apply allLt_app; with_reducible apply allLt_app; with_reducible apply allLt_app; with_reducible apply allLt_app; with_reducible assumption)
    | ((with_reducible apply allLt_app); with_reducible apply allLt_app; with_reducible apply allLt_app; with_reducible apply allLt_app; with_reducible apply allLt_app; with_reducible apply allLt_app; with_reducible assumption)
    | ((with_reducible apply allLt_app); with_reducible apply allLt_app; with_reducible apply allLt_app; with_reducible apply allLt_app; with_reducible apply allLt_app; with_reducible apply allLt_app; with_reducible apply allLt_app; with_reducible assumption)
  k_with "my ends" => first
    | (with_reducible exact Ends.base)
    | ((with_reducible apply Ends.app); with_reducible assumption)
    | ((with_reducible apply Ends.appR); (focus k_extra "my ends"); with_reducible assumption)
    | ((with_reducible apply Ends.cons); (focus k_extra "my lt"); k_extra "my ends")
    | ((with_reducible apply Ends.skip); k_extra "my ends")
  k_with "my ne" => first
    | (with_reducible assumption)
    | ((with_reducible refine Nat.ne_of_gt ?_); with_reducible assumption)
    | ((with_reducible refine Nat.ne_of_lt ?_); with_reducible assumption)
    | ((with_reducible refine Ne.symm ?_); with_reducible assumption)
    | ((with_reducible refine ne_up1 ?_); with_reducible assumption)
    | ((with_reducible refine ne_up2 ?_); with_reducible assumption)
    | ((with_reducible refine ne_up3 ?_); with_reducible assumption)
  k_with "my kne" => ((refine neN ?_); (try dsimp only); first
    | (k_extra "my ne")
    | exact Nat.ne_of_lt (Nat.lt_succ_self _)
    | exact Nat.ne_of_gt (Nat.lt_succ_self _)
    | exact Nat.ne_of_lt (Nat.lt_succ_of_lt (Nat.lt_succ_self _))
    | exact Nat.ne_of_gt (Nat.lt_succ_of_lt (Nat.lt_succ_self _))
    | ((refine Nat.ne_of_gt (Nat.lt_of_succ_lt ?_)); with_reducible assumption)
    | ((refine Nat.ne_of_gt (Nat.lt_of_succ_lt (Nat.lt_of_succ_lt ?_))); with_reducible assumption))
  k_with "my off" => first
    | (with_reducible assumption)
    | (with_reducible refine off3_lt ?_ ?_ ?_ <;> with_reducible assumption)
    | (with_reducible refine off3_app ?_ ?_ <;> k_extra "my off")
  k_with "my cut" => first
    | ((with_reducible apply Cut.skipI); k_extra "my cut")
    | ((with_reducible apply Cut.skipC); k_extra "my cut")
    | ((with_reducible apply Cut.skipD); k_extra "my cut")
    | ((with_reducible apply Cut.cons); (focus k_extra "my ne"); (focus k_extra "my ne"); (focus k_extra "my ne"); k_extra "my cut")
    | ((with_reducible apply Cut.base); k_extra "my off")
    | ((with_reducible apply Cut.skip); k_extra "my cut")
  k_with "my off1" => first
    | (with_reducible assumption)
    | ((with_reducible refine off1_lt ?_); with_reducible assumption)
    | (with_reducible refine off1_app ?_ ?_ <;> k_extra "my off1")
  k_with "my rel" => first
    | (with_reducible assumption)
    | ((with_reducible apply FIn.mono); (with_reducible assumption); k_extra "my sub")
    | ((with_reducible apply RelIn.mono); (with_reducible assumption); k_extra "my sub")
    | ((with_reducible apply VarIn.mono); (with_reducible assumption); k_extra "my sub")
    | ((with_reducible apply DecsIn.mono); (with_reducible assumption); k_extra "my sub")
    | ((with_reducible apply RelIn.mk); (focus k_extra "my mem"); (refine And.intro ?_ ?_ <;> with_reducible assumption))
    | ((with_reducible apply VarIn.mk); k_extra "my mem")
    | (with_reducible exact DecsIn.nil)
    | ((with_reducible apply DecsIn.cons); (focus ((with_reducible apply DecIn.at); (focus k_extra "my mem"); (focus (k_extra "my clean"; omega)); k_extra "my rel")); k_extra "my rel")
  k_with "my less" => first
    | exact Nat.lt_succ_self _
    | exact Nat.lt_succ_of_le (Nat.le_max_left _ _)
    | exact Nat.lt_succ_of_le (Nat.le_max_right _ _)
  k_with "my fin" => first
    | (k_extra "my rel")
    | ((with_reducible apply FIn.tf); k_extra "my mem")
    | ((with_reducible apply FIn.not); (focus k_extra "my mem"); k_extra "my fin")
    | ((with_reducible apply FIn.con0); (focus k_extra "my mem"); k_extra "my mem")
    | ((with_reducible apply FIn.con1); (focus k_extra "my mem"); (focus k_extra "my mem"); k_extra "my fin")
    | ((with_reducible apply FIn.con2); (focus k_extra "my mem"); (focus k_extra "my mem"); (focus k_extra "my fin"); k_extra "my fin")
    | ((with_reducible apply FIn.imp); (focus k_extra "my mem"); (focus k_extra "my fin"); k_extra "my fin")
    | ((with_reducible apply FIn.iff); (focus k_extra "my mem"); (focus k_extra "my fin"); k_extra "my fin")
    | ((with_reducible apply FIn.qu); (focus k_extra "my mem"); (focus k_extra "my mem"); (focus k_extra "my rel"); k_extra "my fin")
    | ((with_reducible apply FIn.some); (focus k_extra "my mem"); k_extra "my rel")
    | ((with_reducible apply FIn.inn); (focus k_extra "my mem"); (focus k_extra "my rel"); k_extra "my rel")
  k_with "my skip" => first
    | ((with_reducible apply skip_cons); (focus k_extra "my tst"); k_extra "my skip")
    | (with_reducible exact skip_nil)
  k_with "my walk" => (repeat' ((fail_if_success (with_reducible show LeaveK h₀ _ _ _ _ _ _)); first | ((fail_if_success (fail_if_success (with_reducible show wpAny _ _ (eval _ (compEnvC _ _ _ _)) (LCg.CompEnd _ _ _ _ _ _ _ _ _ _ _ _) _ _))); k_fold) | (k_unfold; (try dsimp only)) | walk1 | (dsimp only; walk1)))
  k_with "my steps" => (repeat' (first | ((fail_if_success (fail_if_success (with_reducible show wpAny _ _ (eval _ (compEnvC _ _ _ _)) (LCg.CompEnd _ _ _ _ _ _ _ _ _ _ _ _) _ _))); k_fold) | (k_unfold; (try dsimp only)) | walk1 | (dsimp only; walk1)))
  k_with "my bool" => first
    | ((with_reducible apply sel_one); (focus kernel_rfl!); kernel_rfl!)
    | ((with_reducible apply sel_two); (focus kernel_rfl!); kernel_rfl!)
    | ((with_reducible apply sel_no); (focus kernel_rfl!); kernel_rfl!)
    | ((with_reducible apply sel_in); (focus kernel_rfl!); kernel_rfl!)
    | kernel_rfl!
    | exact rfl
  k_with "my val" => first
    | ((with_reducible show Val _ _ _ _ _ _ _ _ (PySem.Expr.Name _ _) _); first
      | ((with_reducible apply val_local); (focus exact rfl); (focus exact rfl); (focus exact rfl); (focus exact rfl); decide)
      | ((with_reducible apply val_cell); (focus exact rfl); (focus exact rfl); (focus k_extra "my mem"); (focus k_asm); (focus exact rfl); (focus exact rfl); decide))
    | ((with_reducible show Val _ _ _ _ _ _ _ _ (PySem.Expr.Subscript _ _ _) _); (with_reducible apply val_item); (focus k_extra "my val"); (focus k_extra "my mem"); (focus (refine And.intro ?_ ?_; decide; exact rfl)); exact rfl)
    | ((with_reducible show Val _ _ _ _ _ _ _ _ (PySem.Expr.Subscript _ (PySem.Expr.Constant (PySem.Const.int 0) _ _) _) _); (with_reducible apply val_head); (focus k_extra "my val"); (focus with_reducible assumption); k_extra "my mem")
    | ((with_reducible show Val _ _ _ _ _ _ _ _ (PySem.Expr.Compare _ [PySem.CmpOp.Eq] _ _) _); (with_reducible apply val_eq); (focus k_extra "my val"); k_extra "my bool")
    | ((with_reducible show ValH _ _ _ _ _ _ _ _ (PySem.Expr.Compare _ [PySem.CmpOp.In] _ _) _); (with_reducible apply val_in); (focus k_extra "my val"); (focus exact rfl); (focus exact Nat.le_of_ble_eq_true rfl); k_extra "my bool")
  k_with "my tst" => first
    | ((with_reducible show Tst _ _ _ _ _ _ _ _ (PySem.Expr.Compare _ [PySem.CmpOp.In] _ _) _); (with_reducible apply tst_in); (focus k_extra "my val"); (focus exact rfl); (focus exact Nat.le_of_ble_eq_true rfl); k_extra "my bool")
    | ((with_reducible show Tst _ _ _ _ _ _ _ _ (PySem.Expr.Compare _ [PySem.CmpOp.Eq] [PySem.Expr.Constant _ _ _] _) _); (with_reducible apply tst_eq); (focus k_extra "my val"); k_extra "my bool")
    | ((with_reducible show Tst _ _ _ _ _ _ _ _ (PySem.Expr.Compare _ [PySem.CmpOp.NotEq] [PySem.Expr.Constant _ _ _] _) _); first
      | ((with_reducible apply tst_ne_f); (focus k_extra "my val"); k_extra "my bool")
      | ((with_reducible apply tst_ne_t); (focus k_extra "my val"); k_extra "my bool"))
    | ((with_reducible show Tst _ _ _ _ _ _ _ _ (PySem.Expr.Compare _ [PySem.CmpOp.Eq] [PySem.Expr.Name _ _] _) _); (with_reducible apply tst_eqb); (focus k_extra "my val"); (focus k_extra "my val"); exact rfl)
    | ((with_reducible show Tst _ _ _ _ _ _ _ _ (PySem.Expr.BoolOp _ _ _) _); first
      | ((with_reducible apply tst_or_no); (focus k_extra "my tst"); k_extra "my tst")
      | ((with_reducible apply tst_or_yes); k_extra "my tst"))
    | ((with_reducible show Tst _ _ _ _ _ _ _ _ (PySem.Expr.Name _ _) _); (with_reducible apply tst_val); (focus k_extra "my val"); intro _; rfl)
  k_with "execs cons If" => (k_here; k_dflt ((rename Fr _ _ _ _ => kF); (rename News _ _ _ _ => kN); first
    | (apply skip_use kF kN; (focus ((with_reducible apply skip_cons); (focus k_extra "my tst"); k_extra "my skip")); intro h' tk' F' N'; k_sweep)
    | ((with_reducible show wpAny _ _ (execs (PySem.Stmt.If _ [PySem.Stmt.Return (some _) _] _ _ :: _) _) _ _ _); refine s_yes kF kN ?_ ?_; (focus k_extra "my tst"); intro h' tk' F' N'; k_sweep)
    | (refine s_yes2 kF kN ?_ ?_; (focus k_extra "my tst"); intro h' tk' F' N'; k_sweep)))
  k_with "execs cons Return" => (k_here; with_reducible refine s_ret ?_)
  k_with "execs cons Assign" => (k_here; (with_reducible show wpAny _ _ (execs (PySem.Stmt.Assign [PySem.Expr.Name _ _] (PySem.Expr.Subscript _ (PySem.Expr.Constant _ _ _) _) _ :: _) _) _ _ _); k_dflt ((with_reducible apply s_let); (focus exact rfl); (focus k_asm); (focus k_asm); (focus k_extra "my val"); (focus exact rfl); (focus exact rfl); (focus exact rfl); intro h' tk' F' N'; k_sweep))
  k_with "ite" => first
    | (k_dflt (refine ite_pos ?_ ?_; (focus decide)))
    | (k_dflt (refine ite_neg ?_ ?_; (focus decide)))
    | (with_reducible refine ite_dec ?_ ?_ <;> intro _)
  k_with "eval Subscript" => (k_here; (with_reducible show wpAny _ _ (eval (PySem.Expr.Subscript _ (PySem.Expr.Constant _ _ _) _) _) _ _ _); k_dflt ((rename Fr _ _ _ _ => kF); (rename News _ _ _ _ => kN); apply e_val kF kN; (focus k_extra "my val"); intro tk'))
  k_with "eval Compare" => (k_here; k_dflt ((rename Fr _ _ _ _ => kF); (rename News _ _ _ _ => kN); first
    | ((with_reducible show wpAny _ _ (eval (PySem.Expr.Compare _ [PySem.CmpOp.In] _ _) _) _ _ _); apply e_valH kF kN; (focus k_extra "my val"); intro h' tk' F' N'; k_sweep)
    | (apply e_val kF kN; (focus k_extra "my val"); intro tk')))
  k_with "eval IfExp" => (k_here; k_dflt ((rename Fr _ _ _ _ => kF); (rename News _ _ _ _ => kN); first
    | ((with_reducible show wpAny _ _ (eval (PySem.Expr.IfExp _ (PySem.Expr.Constant (PySem.Const.str _) _ _) (PySem.Expr.Constant (PySem.Const.str _) _ _) _) _) _ _ _); apply e_sel kF kN; (focus k_extra "my tst"); intro h' tk' t' F' N'; k_sweep)
    | (refine e_no kF kN ?_ ?_; (focus k_extra "my tst"); intro h' tk' F' N'; k_sweep)
    | (refine e_yes kF kN ?_ ?_; (focus k_extra "my tst"); intro h' tk' F' N'; k_sweep)
    | (refine' e_if kF kN ?_ ?_ ?_; rotate_left; (focus k_extra "my tst"); (intro hc h' tk' F' N'; k_sweep); rotate_left; (intro hc h' tk' F' N'; k_sweep))))
  k_with "my val" => first
    | ((with_reducible show Val _ _ _ _ _ _ _ (compEnvC _ _ _ _) (PySem.Expr.Name _ _) _); first
      | ((with_reducible apply val_own); (focus k_extra "my mem"); (focus with_reducible assumption); (focus with_reducible assumption); (focus exact rfl); (focus exact rfl); decide)
      | ((with_reducible apply val_free); (focus exact rfl); (focus k_extra "my mem"); (focus k_asm); (focus exact rfl); (focus exact rfl); decide))
    | ((with_reducible show Val _ _ _ _ _ _ _ _ (PySem.Expr.UnaryOp _ _ _) _); (with_reducible apply val_not); k_extra "my val")
    | (with_reducible exact val_bool)
  k_with "my fn" => first
    | ((with_reducible show Val _ _ _ _ _ _ _ (compEnvC _ _ _ _) _ _); (with_reducible apply val_globC); (focus k_asm); (focus k_asm); (focus k_is); (focus exact rfl); (focus exact rfl); (focus exact rfl); decide)
    | ((with_reducible apply val_glob); (focus exact rfl); (focus k_asm); (focus k_asm); (focus k_is); (focus exact rfl); (focus exact rfl); decide)
  k_with "my arg" => first
    | (with_reducible exact arg_int)
    | (with_reducible exact arg_str)
    | ((with_reducible show Arg _ _ _ _ _ _ _ _ (PySem.Expr.BinOp _ _ _ _) _); (with_reducible apply arg_sub); k_extra "my val")
    | ((with_reducible apply arg_val); k_extra "my val")
  k_with "eval Call" => (k_here; k_dflt ((rename Fr _ _ _ _ => kF); (rename News _ _ _ _ => kN); first
    | ((with_reducible show wpAny _ _ (eval (PySem.Expr.Call (PySem.Expr.Name _ _) [_] [] _) _) _ _ _); apply e_call1 kF kN; (focus k_asm); (focus k_extra "my fn"); (focus k_is); (focus k_extra "my arg"); (focus exact rfl); (focus exact rfl); intro tk' t')
    | ((with_reducible show wpAny _ _ (eval (PySem.Expr.Call (PySem.Expr.Name _ _) [_, _] [] _) _) _ _ _); apply e_call2 kF kN; (focus k_asm); (focus k_extra "my fn"); (focus k_is); (focus k_extra "my arg"); (focus k_extra "my arg"); (focus exact rfl); (focus exact rfl); (focus exact rfl); (focus exact rfl); intro tk' t' u')
    | ((with_reducible show wpAny _ _ (eval (PySem.Expr.Call (PySem.Expr.Name _ _) [_, _, _] [] _) _) _ _ _); apply e_call3 kF kN; (focus k_asm); (focus k_extra "my fn"); (focus k_is); (focus k_extra "my arg"); (focus k_extra "my arg"); (focus k_extra "my arg"); (focus exact rfl); (focus exact rfl); (focus exact rfl); (focus exact rfl); (focus exact rfl); intro tk' t' u' v')))
  k_with "CompEnd" => (k_extra "my split"; k_dflt ((with_reducible apply comp_end); (focus k_asm); (focus k_asm); (focus k_extra "my mem"); (focus k_extra "my mem"); (focus k_extra "my mem"); (focus k_extra "my cut"); (focus (first | exact trivial | ((with_reducible apply src_at); k_extra "my mem") | k_extra "my mem"))))
  k_with "TupSrc" => (k_here; k_dflt ((with_reducible apply TupSrc.ledger); (focus exact rfl); (focus k_asm); (focus k_asm); (focus k_extra "my mem"); (focus (first | exact Nat.le_of_ble_eq_true rfl | size_fits)); intro g'; lcg_lit))
  k_with "subscriptTail" => (k_here; (with_reducible show wpAny _ _ (subscriptTail _ _ (Value.ref _) (Value.int _ _)) _ _ _); k_dflt ((with_reducible apply item_tupleT); (focus ((with_reducible apply News.isTup); (focus k_asm); k_extra "my mem")); (focus decide); (focus decide); (focus exact rfl); (focus exact rfl); k_whole))
  k_with "my cut1" => first
    | ((with_reducible apply Cut1.skip); k_extra "my cut1")
    | ((with_reducible apply Cut1.cons); (focus k_extra "my ne"); k_extra "my cut1")
    | ((with_reducible apply Cut1.base); k_extra "my off1")
  k_with "my above" => first
    | (with_reducible assumption)
    | (with_reducible exact above_nil)
    | ((with_reducible refine above_cons ?_ ?_); (focus with_reducible assumption); k_extra "my above")
    | ((with_reducible refine above_app ?_ ?_) <;> k_extra "my above")
  k_with "my ord" => first
    | (with_reducible assumption)
    | ((with_reducible refine ordU ?_ ?_) <;> k_extra "my ord")
  k_with "my lt" => ((with_reducible apply allLt_cons); (focus with_reducible assumption); k_extra "my lt")
  k_with "my ends" => first
    | (with_reducible exact Ends.base)
    | ((with_reducible apply Ends.app); k_extra "my ord")
    | ((with_reducible apply Ends.appR); (focus k_extra "my ends"); k_extra "my ord")
    | ((with_reducible apply Ends.cons); (focus k_extra "my lt"); k_extra "my ends")
    | ((with_reducible apply Ends.skip); k_extra "my ends")
  k_with "my ends" => ((with_reducible apply Ends.two); (focus k_extra "my ends"); k_extra "my above")
  k_with "my off1" => first
    | (with_reducible assumption)
    | ((with_reducible refine off1_lt ?_); with_reducible assumption)
    | ((with_reducible refine off1_all ?_); k_extra "my lt")
    | ((with_reducible refine off1_up ?_ (Nat.le_add_right _ 1)); k_extra "my lt")
    | ((with_reducible refine off1_up ?_ (Nat.le_succ_of_le (Nat.le_add_right _ 1))); k_extra "my lt")
    | ((with_reducible refine off1_up ?_ (Nat.le_succ_of_le (Nat.le_succ_of_le (Nat.le_add_right _ 1)))); k_extra "my lt")
    | ((with_reducible refine off1_app ?_ ?_) <;> k_extra "my off1")
  k_with "storeName" => (k_here; k_dflt (refine' store_cell ?F_r1 ?N_r1 ?c_r1 ?m_r1 ?k_r1 ?d_r1 ?_ ?a_r1 ?b_r1; (case a_r1 => rfl); (case b_r1 => rfl); (case c_r1 => rfl); (case F_r1 => k_asm); (case N_r1 => k_asm); (case m_r1 => k_extra "my mem"); (case k_r1 => k_extra "my cut1"); (case d_r1 => with_reducible assumption); k_whole); intro h' o' F' N' d'; (try dsimp only at N'); (try k_sweep))
  k_with "eval Dict cons cons" => (k_here; k_dflt (first
    | (refine' star_pair (knd := PySem.strKind _ _) ?F_r2 ?N_r2 ?sys_r2 ?_; (case F_r2 => k_asm); (case N_r2 => k_asm); (case sys_r2 => refine' sys_low ?T_r2 ?F_r2; (case T_r2 => k_asm); (case F_r2 => k_asm)))
    | (refine' star_two (knd := PySem.strKind _ _) ?F_r3 ?N_r3 ?sys_r3 ?_; (case F_r3 => k_asm); (case N_r3 => k_asm); (case sys_r3 => refine' sys_low ?T_r3 ?F_r3; (case T_r3 => k_asm); (case F_r3 => k_asm)))); intro d' h' F' N' l1 lo'; (try k_lt l1); (try k_sweep))
  k_with "Star1" => (k_extra "my split"; k_dflt (refine' star1 ?F_r4 ?N_r4 ?d_r4 ?e_r4 ?k_r4 ?m_r4 ?y_r4 ?l_r4 ?_; (case F_r4 => k_asm); (case N_r4 => k_asm); (case e_r4 => k_extra "my mem"); (case k_r4 => k_extra "my cut1"); (case m_r4 => refine' Sub.mem ?sm_r4 ?sn_r4; (case sn_r4 => with_reducible assumption); (case sm_r4 => k_extra "my sub")); (case y_r4 => with_reducible assumption); (case d_r4 => with_reducible assumption); (case l_r4 => with_reducible assumption)); intro o' sub' h' tk' d' F' N' off' l1 lt'; (try k_lt l1); (try k_sweep))
  k_with "Star2" => (k_extra "my split"; k_dflt (refine' star2 ?hk_r5 ?F_r5 ?N_r5 ?s_r5 ?e_r5 ?k_r5 ?k1_r5 ?_; (case hk_r5 => exact strKind_is _ _ _ _); (case F_r5 => k_asm); (case N_r5 => k_asm); (case s_r5 => k_extra "my mem"); (case e_r5 => k_extra "my mem"); (case k_r5 => k_extra "my cut1"); (case k1_r5 => k_extra "my cut1")); intro o' h' tk' d' F' N' off')
  k_with "TurnRest" => k_dflt (first
    | (refine TurnRest.cons ?_; intro it' h' tk' F' N' off'; (try simp only [LCg.Off1] at off'); (try simp only [List.cons_append, List.nil_append] at N'))
    | (refine TurnRest.nil ?_; intro h' tk' F' N'; (try simp only [List.cons_append, List.nil_append] at N')))
  k_with "TurnPost" => (dsimp only [TurnPost])
  k_with "TurnEnd" => (k_extra "my split"; k_dflt (refine' turn_end ?F_r6 ?N_r6 ?i_r6 ?k_r6 ?e_r6 ?_; (case F_r6 => k_asm); (case N_r6 => k_asm); (case i_r6 => k_extra "my mem"); (case k_r6 => k_extra "my cut1"); (case e_r6 => k_extra "my mem")))
  k_with "execs cons" => ((try k_fold); (with_reducible refine wpAny_execs_cons ?_); try dsimp only)
  k_with "subscriptTail Name Subscript" => (k_here; k_dflt first
    | ((with_reducible show wpAny _ _ (subscriptTail _ _ (Value.ref _) (Value.int _ _)) _ _ _); apply set_at; (focus k_asm); (focus exact hS); (focus k_extra "my sub"); (focus exact hr9); intro b9 n9 vs9 hs9 hi9 hl9)
    | ((with_reducible show wpAny _ _ (subscriptTail _ _ (Value.ref _) (Value.str _ _)) _ _ _); apply env_at; (focus k_asm); (focus exact hE); (focus k_extra "my sub"); (focus exact hk9); intro u9))
  k_with "compareOp NotEq ref ref" => (k_here; k_dflt (apply set_some; (focus k_asm); (focus k_extra "my mem"); (focus exact hi9); (focus k_extra "my mem"); (focus (simp only [holdSize, Form.size] at hu; ktr_units)); k_whole))
  k_with "compareOp In int ref" => (k_here; k_dflt (apply set_in; (focus k_asm); (focus k_extra "my mem"); (focus exact hi9); k_whole))
  k_with "StarT" => (k_extra "my split"; k_dflt (refine' starT ?F_s ?N_s ?d_s ?e_s ?k_s ?m_s ?y_s ?l_s ?_; (case F_s => k_asm); (case N_s => k_asm); (case e_s => k_extra "my mem"); (case k_s => k_extra "my cut1"); (case m_s => refine' Sub.mem ?sm_s ?sn_s; (case sn_s => with_reducible assumption); (case sm_s => k_extra "my sub")); (case y_s => with_reducible assumption); (case d_s => with_reducible assumption); (case l_s => with_reducible assumption)); intro o' h' tk' d' F' N' off')
  k_with "ite" => (k_dflt (refine ite_bool ?_ ?_ <;> intro hb9))
  k_with "ite" => first
    | (k_dflt (refine ite_pos ?_ ?_; (focus decide)))
    | (k_dflt (refine ite_neg ?_ ?_; (focus decide)))
  k_with "call ref" => (k_dflt (apply use_P; (focus k_asm); (focus k_asm); (focus k_asm); (focus k_asm); (focus k_asm); (focus (first | exact rfl | assumption)); (focus (apply HoldRel.mk; (focus k_extra "my rel"); (focus exact hS); (focus exact hE); (first | exact hsc | exact And.left hsc | exact And.right hsc))); (focus (apply IH; (apply plus20; k_extra "my less"))); (focus (k_extra "my sub")); (focus (apply room1 (size := holdSize); (focus with_reducible assumption); (apply plus20; k_extra "my less"))); (focus (apply units1 (size := holdSize); (focus with_reducible assumption); (apply plus20; k_extra "my less"))); intro r9 tl9 h9 tk9 F9 N9 hl9 ho9; (try simp only [List.forall_mem_cons, List.forall_mem_append] at hl9); (try simp only [List.nil_append, List.cons_append] at N9); (simp only [holdOut] at ho9; subst ho9); (try dsimp only); (try k_fold)))
  k_with "exec For Name Subscript cons nil" => (k_here; (rename Fr _ _ _ _ => lF'); k_dflt (refine' For_turns lF' ?_ ?hs_f; (case hs_f => intro _; rfl); k_whole))
  k_with "pyIter ref" => (k_here; k_dflt (apply for_tup; (focus exact rfl); (focus k_asm); (focus k_asm); (focus k_extra "my mem")); intro I9 hI9; (try k_lt hI9))
  refine wpAny_call ?_
  k_dflt ktr_enter
  walk1
  clear hv9 hm9
  cases hF
  case tf =>
    k_extra "my walk"
    all_goals (
      k_extra "my split"
      k_dflt (apply leave_P (Out := holdOut); (focus exact hret); (focus k_asm); (focus k_asm); (focus k_extra "my ends"))
      exact congrArg Value.bool (by first | exact rfl | (exact sel_one (by kernel_rfl!) (by kernel_rfl!)) | exact con1_hit (by assumption) | exact con1_end (by assumption) | exact con2_hit (by assumption) | exact con2_nxt (by assumption) (by assumption) | exact con2_end (by assumption) (by assumption) | exact imp_yes (by assumption) | exact imp_no (by assumption)))
  case some =>
    rename_i hrel
    have hr9 := hrel.rel
    cases hrel
    k_extra "my walk"
    all_goals (
      k_extra "my split"
      k_dflt (apply leave_P (Out := holdOut); (focus exact hret); (focus k_asm); (focus k_asm); (focus k_extra "my ends"))
      exact congrArg Value.bool (by first | exact rfl | (exact sel_one (by kernel_rfl!) (by kernel_rfl!)) | exact con1_hit (by assumption) | exact con1_end (by assumption) | exact con2_hit (by assumption) | exact con2_nxt (by assumption) (by assumption) | exact con2_end (by assumption) (by assumption) | exact imp_yes (by assumption) | exact imp_no (by assumption)))
  case inn =>
    rename_i hvar hrel
    have hr9 := hrel.rel
    have hk9 := hsc
    cases hvar
    cases hrel
    k_extra "my walk"
    all_goals (
      k_extra "my split"
      k_dflt (apply leave_P (Out := holdOut); (focus exact hret); (focus k_asm); (focus k_asm); (focus k_extra "my ends"))
      exact congrArg Value.bool (by first | exact rfl | (exact sel_one (by kernel_rfl!) (by kernel_rfl!)) | exact con1_hit (by assumption) | exact con1_end (by assumption) | exact con2_hit (by assumption) | exact con2_nxt (by assumption) (by assumption) | exact con2_end (by assumption) (by assumption) | exact imp_yes (by assumption) | exact imp_no (by assumption)))
  case not =>
    k_extra "my walk"
    all_goals (
      k_extra "my split"
      k_dflt (apply leave_P (Out := holdOut); (focus exact hret); (focus k_asm); (focus k_asm); (focus k_extra "my ends"))
      exact congrArg Value.bool (by first | exact rfl | (exact sel_one (by kernel_rfl!) (by kernel_rfl!)) | exact con1_hit (by assumption) | exact con1_end (by assumption) | exact con2_hit (by assumption) | exact con2_nxt (by assumption) (by assumption) | exact con2_end (by assumption) (by assumption) | exact imp_yes (by assumption) | exact imp_no (by assumption)))
  case con0 =>
    k_extra "my walk"
    all_goals (
      k_extra "my split"
      k_dflt (apply leave_P (Out := holdOut); (focus exact hret); (focus k_asm); (focus k_asm); (focus k_extra "my ends"))
      exact congrArg Value.bool (by first | exact rfl | (exact sel_one (by kernel_rfl!) (by kernel_rfl!)) | exact con1_hit (by assumption) | exact con1_end (by assumption) | exact con2_hit (by assumption) | exact con2_nxt (by assumption) (by assumption) | exact con2_end (by assumption) (by assumption) | exact imp_yes (by assumption) | exact imp_no (by assumption)))
  case con1 =>
    k_extra "my walk"
    all_goals (
      k_extra "my split"
      k_dflt (apply leave_P (Out := holdOut); (focus exact hret); (focus k_asm); (focus k_asm); (focus k_extra "my ends"))
      exact congrArg Value.bool (by first | exact rfl | (exact sel_one (by kernel_rfl!) (by kernel_rfl!)) | exact con1_hit (by assumption) | exact con1_end (by assumption) | exact con2_hit (by assumption) | exact con2_nxt (by assumption) (by assumption) | exact con2_end (by assumption) (by assumption) | exact imp_yes (by assumption) | exact imp_no (by assumption)))
  case con2 =>
    k_extra "my walk"
    all_goals (
      k_extra "my split"
      k_dflt (apply leave_P (Out := holdOut); (focus exact hret); (focus k_asm); (focus k_asm); (focus k_extra "my ends"))
      exact congrArg Value.bool (by first | exact rfl | (exact sel_one (by kernel_rfl!) (by kernel_rfl!)) | exact con1_hit (by assumption) | exact con1_end (by assumption) | exact con2_hit (by assumption) | exact con2_nxt (by assumption) (by assumption) | exact con2_end (by assumption) (by assumption) | exact imp_yes (by assumption) | exact imp_no (by assumption)))
  case imp =>
    k_extra "my walk"
    all_goals (
      k_extra "my split"
      k_dflt (apply leave_P (Out := holdOut); (focus exact hret); (focus k_asm); (focus k_asm); (focus k_extra "my ends"))
      exact congrArg Value.bool (by first | exact rfl | (exact sel_one (by kernel_rfl!) (by kernel_rfl!)) | exact con1_hit (by assumption) | exact con1_end (by assumption) | exact con2_hit (by assumption) | exact con2_nxt (by assumption) (by assumption) | exact con2_end (by assumption) (by assumption) | exact imp_yes (by assumption) | exact imp_no (by assumption)))
  case iff =>
    k_extra "my walk"
    all_goals (
      k_extra "my split"
      k_dflt (apply leave_P (Out := holdOut); (focus exact hret); (focus k_asm); (focus k_asm); (focus k_extra "my ends"))
      exact congrArg Value.bool (by first | exact rfl | (exact sel_one (by kernel_rfl!) (by kernel_rfl!)) | exact con1_hit (by assumption) | exact con1_end (by assumption) | exact con2_hit (by assumption) | exact con2_nxt (by assumption) (by assumption) | exact con2_end (by assumption) (by assumption) | exact imp_yes (by assumption) | exact imp_no (by assumption)))
  case qu =>
    rename_i a7 t7 n7 c7 n8 b k rs vs8 v7 f9 hm7 hm8 hdec hf9
    have hke : k = e.length := hsc.1
    have hk7 : k + rs.length ≤ 7 := by rw [hke]; exact hsc.2.2.1
    k_with "call ref" => first | ((with_reducible show wpAny _ _ (call (Value.ref 238) _) _ _ _); (k_dflt (apply use_P; (focus k_asm); (focus k_asm); (focus k_asm); (focus k_asm); (focus k_asm); (focus (first | exact rfl | assumption)); (focus (exact RowRel.mk hm8 hdec hsc.2.1 hk7 hS)); (focus (exact hRows _)); (focus (k_extra "my sub")); (focus (exact room2 (dp := dp) (a := 12) hd (Nat.le_trans (by decide : 13 ≤ 20) (Nat.le_add_left _ _)))); (focus (exact units2 (un := un) (a := 12) hu (Nat.le_trans (by decide : 13 ≤ 20) (Nat.le_add_left _ _)))); intro r9 tl9 h9 tk9 F9 N9 hl9 ho9; (try simp only [List.forall_mem_cons, List.forall_mem_append] at hl9); (try simp only [List.nil_append, List.cons_append] at N9); (simp only [rowOut] at ho9; obtain ⟨a9, vs9, n9, e9, hm9, hr9⟩ := ho9; subst e9); (try dsimp only); (try k_fold)))) | (k_dflt (apply use_P; (focus k_asm); (focus k_asm); (focus k_asm); (focus k_asm); (focus k_asm); (focus (first | exact rfl | assumption)); (focus (refine HoldRel.mk (FIn.mono hf9 (Sub.cons Sub.refl)) (SetsIn.mono hS (Sub.cons Sub.refl)) (din_merge hkv dk0 hke (by omega) (by assumption) (.head nr) (by with_reducible assumption)) (sc_at hsc.2.2.2 hlen9))); (focus (apply IH; (apply plus20; k_extra "my less"))); (focus (apply Sub.one; (focus k_extra "my mem"); k_extra "my sub")); (focus (apply room1 (size := holdSize); (focus with_reducible assumption); (apply plus20; k_extra "my less"))); (focus (apply units1 (size := holdSize); (focus with_reducible assumption); (apply plus20; k_extra "my less"))); intro r9 tl9 h9 tk9 F9 N9 hl9 ho9; (try simp only [List.forall_mem_cons, List.forall_mem_append] at hl9); (try simp only [List.nil_append, List.cons_append] at N9); (simp only [holdOut] at ho9; subst ho9); (try dsimp only); (try k_fold)))
    k_with "exec For Name Call cons nil" => (k_here; (rename Fr _ _ _ _ => lF'); k_dflt (refine' For_turns lF' ?_ ?hs_g; (case hs_g => intro _; rfl); k_whole))
    k_with "pyIter ref" => (k_here; k_dflt (refine' for_list ?t1_g ?t2_g ?t3_g ?t4_g ?_; (case t1_g => rfl); (case t2_g => k_asm); (case t3_g => k_asm); (case t4_g => refine Sub.mem ?_ hm9; k_extra "my sub")); intro I9 hI9; (try k_lt hI9); (k_dflt (refine' rows_loop (w := w) (x := Str.ofString "row") (n := k) (es := rowSpec (k, rs, S)) (fun e' => hold S f9 (e ++ e') = b) ?tu_g (RowsIn.mono hr9 ?hrm_g) ?do_g; (case hrm_g => k_extra "my sub"))); (case' do_g => (intro u8 tl8 h8 tk8 hall8 ho8 F8 N8; (try simp only [List.forall_mem_cons, List.forall_mem_append] at ho8); (try simp only [List.nil_append, List.cons_append] at N8))); (case' tu_g => (intro v8 e9' tl8 u8 it8 h8 tk8 he8 hd8 ho8 F8 N8 off8; (try simp only [List.forall_mem_cons, List.forall_mem_append] at ho8); (try simp only [List.nil_append, List.cons_append] at N8); (try simp only [List.cons_append, List.nil_append, LCg.Off1] at off8); (have hlen9 := rows_len he8); cases hd8; rename_i a0 o0 kvs0 dm0 dy0 dd0 dk0 dl0; (have hkl0 := dk0.le dl0))))
    k_with "TurnEnd" => (k_extra "my split"; k_dflt (refine' row_turn ?F_t ?hm_t ?N_t ?i_t ?k_t ?en_t ?e_t ?st_t; (case F_t => k_asm); (case hm_t => exact map_over); (case N_t => k_asm); (case i_t => k_extra "my mem"); (case k_t => k_extra "my cut1"); (case en_t => k_extra "my ends"); (case e_t => refine Sub.mem ?_ hm9; k_extra "my sub"); (case st_t => exact beq_off hb9)))
    k_extra "my walk"
    all_goals (
      k_extra "my split"
      k_dflt (apply leave_P (Out := holdOut); (focus exact hret); (focus k_asm); (focus k_asm); (focus k_extra "my ends"))
      exact congrArg Value.bool (by first | exact (allb_const hall8).symm | exact (allb_hit he8 (beq_hit hb9)).symm))
end Mine
namespace Mine
theorem within_ok (w : World) (mean : ExcName → Option Value) (mg mb : Str → Option Value) (d : Int × List Int) :
    Pure w mean mg mb 99 WRel withinSize withinOut d := by
  have hFill : heap = heap ∧ PySem.Challenge.rw_rr0087_01 = PySem.Challenge.rw_rr0087_01 := by
    k_fill
    exact ⟨rfl, rfl⟩
  clear hFill
  intro dp un gd cn cs a ccd cl outer A₀ base h₀ L m news nr s vs Q E B F X N T hk hs hR hd hu hret
  cases hR
  rename_i sv qv tv n n0 nt a0 t0 vs xs ms mq mt hA hl
  simp only [withinSize] at hd hu
  k_with_none
  k_with "my enter" => first
    | (refine' code_def ?k1_en0 ?k2_en0 ?k3_en0 ?k4_en0 ?k5_en0 ?kA_en0 ?kF_en0 ?kK_en0 ?k6_en0 ?k7_en0 ?k8_en0 ?k9_en0 ?kB_en0 ?_ ?c2_en0 ?c3_en0 ?c4_en0 ?c5_en0; (case kA_en0 => exact rfl); (case kF_en0 => exact rfl); (case kK_en0 => first | exact rfl | assumption); (case k1_en0 => k_asm); (case k2_en0 => k_asm); (case k3_en0 => k_asm); (case k4_en0 => k_asm); (case k5_en0 => k_asm); (case k6_en0 => k_is); (case k7_en0 => k_is); (case k8_en0 => ktr_room); (case k9_en0 => exact BindsTo.of_eq rfl); (case c5_en0 => decide); (case kB_en0 => exact locs rfl); (case c2_en0 => exact rfl); (case c3_en0 => exact rfl); (case c4_en0 => exact rfl); k_whole; intro g' L' h' FG' F' N' B' X' T'; (try dsimp only); (try k_fold))
    | (refine' code_defC ?k1_en1 ?k2_en1 ?k3_en1 ?k4_en1 ?k5_en1 ?kA_en1 ?kF_en1 ?kK_en1 ?k6_en1 ?k7_en1 ?k8_en1 ?k9_en1 ?kB_en1 ?kD_en1 ?_ ?c2_en1 ?c3_en1 ?c4_en1; (case kA_en1 => exact rfl); (case kF_en1 => exact rfl); (case kK_en1 => first | exact rfl | assumption); (case k1_en1 => k_asm); (case k2_en1 => k_asm); (case k3_en1 => k_asm); (case k4_en1 => k_asm); (case k5_en1 => k_asm); (case k6_en1 => k_is); (case k7_en1 => k_is); (case k8_en1 => ktr_room); (case k9_en1 => exact BindsTo.of_eq rfl); (case kB_en1 => exact rfl); (case kD_en1 => decide +kernel); (case c2_en1 => exact rfl); (case c3_en1 => exact rfl); (case c4_en1 => exact rfl); k_whole; intro g' L' h' tk' cells' FG' F' N' Y' B' X' T' l1; (try k_lt l1); (first | (refine cells1 Y' N' ?_; clear Y' N' cells'; intro o1' N' d1') | (refine cells2 Y' N' ?_; clear Y' N' cells'; intro o1' o2' N' d1' d2') | (refine cells3 Y' N' ?_; clear Y' N' cells'; intro o1' o2' o3' N' d1' d2' d3') | (refine cells4 Y' N' ?_; clear Y' N' cells'; intro o1' o2' o3' o4' N' d1' d2' d3' d4')); (repeat ((with_reducible rename (Obj.data _ = Data.cell (bindC _ _ _ _)) => hcl1); (first | (have hcl2 : Obj.data _ = Data.cell (some _) := hcl1) | (have hcl2 : Obj.data _ = Data.cell none := hcl1)); clear hcl1)); (try dsimp only); (try k_fold))
  k_with "my mem" => first
    | (with_reducible assumption)
    | (with_reducible exact List.mem_cons_self)
    | ((with_reducible refine mem_head ?_); exact rfl)
    | ((with_reducible refine List.mem_cons_of_mem _ ?_); k_extra "my mem")
    | ((with_reducible apply Sub.mem); (with_reducible assumption); (with_reducible assumption))
    | ((with_reducible refine List.mem_append.mpr (Or.inl ?_)); k_extra "my mem")
    | ((with_reducible refine List.mem_append.mpr (Or.inr ?_)); k_extra "my mem")
  k_with "my clean" => (repeat ((with_reducible rename (@Ne Nat _ _) => hNe); clear hNe))
  k_with "my split" => (repeat ((with_reducible rename (_ ∧ _) => hAnd); first | ((with_reducible refine (fun hAnd1 hAnd2 hAnd3 hAnd4 hAnd5 hAnd6 hAnd7 hAnd8 hAnd9 hAnd10 hAnd11 hAndR => ?_) (hAnd.1) (hAnd.2.1) (hAnd.2.2.1) (hAnd.2.2.2.1) (hAnd.2.2.2.2.1) (hAnd.2.2.2.2.2.1) (hAnd.2.2.2.2.2.2.1) (hAnd.2.2.2.2.2.2.2.1) (hAnd.2.2.2.2.2.2.2.2.1) (hAnd.2.2.2.2.2.2.2.2.2.1) (hAnd.2.2.2.2.2.2.2.2.2.2.1) (hAnd.2.2.2.2.2.2.2.2.2.2.2)); clear hAnd) | ((with_reducible refine (fun hAnd1 hAnd2 hAnd3 hAnd4 hAnd5 hAnd6 hAnd7 hAndR => ?_) (hAnd.1) (hAnd.2.1) (hAnd.2.2.1) (hAnd.2.2.2.1) (hAnd.2.2.2.2.1) (hAnd.2.2.2.2.2.1) (hAnd.2.2.2.2.2.2.1) (hAnd.2.2.2.2.2.2.2)); clear hAnd) | ((with_reducible refine (fun hAnd1 hAnd2 hAnd3 hAnd4 hAndR => ?_) (hAnd.1) (hAnd.2.1) (hAnd.2.2.1) (hAnd.2.2.2.1) (hAnd.2.2.2.2)); clear hAnd) | ((with_reducible refine (fun hAnd1 hAnd2 hAndR => ?_) (hAnd.1) (hAnd.2.1) (hAnd.2.2)); clear hAnd) | (have hAnd1 := And.left hAnd; have hAnd2 := And.right hAnd; clear hAnd)))
  k_with "my sub" => first
    | (with_reducible exact Sub.refl)
    | (with_reducible assumption)
    | (with_reducible exact Sub.nil)
    | (with_reducible refine Sub.app ?_ ?_ <;> k_extra "my sub")
    | ((with_reducible refine Sub.one ?_ ?_); k_extra "my mem"; k_extra "my sub")
    | ((with_reducible refine Sub.cons ?_); k_extra "my sub")
    | ((with_reducible refine Sub.left ?_); k_extra "my sub")
    | ((with_reducible refine Sub.right ?_); k_extra "my sub")
  k_with "my lt" => first
    | (with_reducible assumption)
    | ((with_reducible refine allLt_of ?_); with_reducible assumption)
    | ((with_reducible apply allLt_app); with_reducible assumption)
    | ((with_reducible apply allLt_app); with_reducible apply allLt_app; with_reducible assumption)
    | ((with_reducible apply allLt_app); with_reducible apply allLt_app; with_reducible apply allLt_app; with_reducible assumption)
    | ((with_reducible apply allLt_app); with_reducible apply allLt_app; with_reducible apply allLt_app; with_reducible apply allLt_app; with_reducible assumption)
    | ((with_reducible apply allLt_app); with_reducible apply allLt_app; with_reducible apply allLt_app; with_reducible apply allLt_app; with_reducible apply allLt_app; with_reducible assumption)
    | ((with_reducible apply allLt_app); with_reducible apply allLt_app; with_reducible apply allLt_app; with_reducible apply allLt_app; with_reducible apply allLt_app; with_reducible apply allLt_app; with_reducible assumption)
    | ((with_reducible apply allLt_app); with_reducible apply allLt_app; with_reducible apply allLt_app; with_reducible apply allLt_app; with_reducible apply allLt_app; with_reducible apply allLt_app; with_reducible apply allLt_app; with_reducible assumption)
  k_with "my ends" => first
    | (with_reducible exact Ends.base)
    | ((with_reducible apply Ends.app); with_reducible assumption)
    | ((with_reducible apply Ends.appR); (focus k_extra "my ends"); with_reducible assumption)
    | ((with_reducible apply Ends.cons); (focus k_extra "my lt"); k_extra "my ends")
    | ((with_reducible apply Ends.skip); k_extra "my ends")
  k_with "my ne" => first
    | (with_reducible assumption)
    | ((with_reducible refine Nat.ne_of_gt ?_); with_reducible assumption)
    | ((with_reducible refine Nat.ne_of_lt ?_); with_reducible assumption)
    | ((with_reducible refine Ne.symm ?_); with_reducible assumption)
    | ((with_reducible refine ne_up1 ?_); with_reducible assumption)
    | ((with_reducible refine ne_up2 ?_); with_reducible assumption)
    | ((with_reducible refine ne_up3 ?_); with_reducible assumption)
  k_with "my kne" => ((refine neN ?_); (try dsimp only); first
    | (k_extra "my ne")
    | exact Nat.ne_of_lt (Nat.lt_succ_self _)
    | exact Nat.ne_of_gt (Nat.lt_succ_self _)
    | exact Nat.ne_of_lt (Nat.lt_succ_of_lt (Nat.lt_succ_self _))
    | exact Nat.ne_of_gt (Nat.lt_succ_of_lt (Nat.lt_succ_self _))
    | ((refine Nat.ne_of_gt (Nat.lt_of_succ_lt ?_)); with_reducible assumption)
    | ((refine Nat.ne_of_gt (Nat.lt_of_succ_lt (Nat.lt_of_succ_lt ?_))); with_reducible assumption))
  k_with "my off" => first
    | (with_reducible assumption)
    | (with_reducible refine off3_lt ?_ ?_ ?_ <;> with_reducible assumption)
    | (with_reducible refine off3_app ?_ ?_ <;> k_extra "my off")
  k_with "my cut" => first
    | ((with_reducible apply Cut.skipI); k_extra "my cut")
    | ((with_reducible apply Cut.skipC); k_extra "my cut")
    | ((with_reducible apply Cut.skipD); k_extra "my cut")
    | ((with_reducible apply Cut.cons); (focus k_extra "my ne"); (focus k_extra "my ne"); (focus k_extra "my ne"); k_extra "my cut")
    | ((with_reducible apply Cut.base); k_extra "my off")
    | ((with_reducible apply Cut.skip); k_extra "my cut")
  k_with "my off1" => first
    | (with_reducible assumption)
    | ((with_reducible refine off1_lt ?_); with_reducible assumption)
    | (with_reducible refine off1_app ?_ ?_ <;> k_extra "my off1")
  k_with "my rel" => first
    | (with_reducible assumption)
    | ((with_reducible apply FIn.mono); (with_reducible assumption); k_extra "my sub")
    | ((with_reducible apply RelIn.mono); (with_reducible assumption); k_extra "my sub")
    | ((with_reducible apply VarIn.mono); (with_reducible assumption); k_extra "my sub")
    | ((with_reducible apply DecsIn.mono); (with_reducible assumption); k_extra "my sub")
    | ((with_reducible apply RelIn.mk); (focus k_extra "my mem"); (refine And.intro ?_ ?_ <;> with_reducible assumption))
    | ((with_reducible apply VarIn.mk); k_extra "my mem")
    | (with_reducible exact DecsIn.nil)
    | ((with_reducible apply DecsIn.cons); (focus ((with_reducible apply DecIn.at); (focus k_extra "my mem"); (focus (k_extra "my clean"; omega)); k_extra "my rel")); k_extra "my rel")
  k_with "my less" => first
    | exact Nat.lt_succ_self _
    | exact Nat.lt_succ_of_le (Nat.le_max_left _ _)
    | exact Nat.lt_succ_of_le (Nat.le_max_right _ _)
  k_with "my fin" => first
    | (k_extra "my rel")
    | ((with_reducible apply FIn.tf); k_extra "my mem")
    | ((with_reducible apply FIn.not); (focus k_extra "my mem"); k_extra "my fin")
    | ((with_reducible apply FIn.con0); (focus k_extra "my mem"); k_extra "my mem")
    | ((with_reducible apply FIn.con1); (focus k_extra "my mem"); (focus k_extra "my mem"); k_extra "my fin")
    | ((with_reducible apply FIn.con2); (focus k_extra "my mem"); (focus k_extra "my mem"); (focus k_extra "my fin"); k_extra "my fin")
    | ((with_reducible apply FIn.imp); (focus k_extra "my mem"); (focus k_extra "my fin"); k_extra "my fin")
    | ((with_reducible apply FIn.iff); (focus k_extra "my mem"); (focus k_extra "my fin"); k_extra "my fin")
    | ((with_reducible apply FIn.qu); (focus k_extra "my mem"); (focus k_extra "my mem"); (focus k_extra "my rel"); k_extra "my fin")
    | ((with_reducible apply FIn.some); (focus k_extra "my mem"); k_extra "my rel")
    | ((with_reducible apply FIn.inn); (focus k_extra "my mem"); (focus k_extra "my rel"); k_extra "my rel")
  k_with "my skip" => first
    | ((with_reducible apply skip_cons); (focus k_extra "my tst"); k_extra "my skip")
    | (with_reducible exact skip_nil)
  k_with "my walk" => (repeat' ((fail_if_success (with_reducible show LeaveK h₀ _ _ _ _ _ _)); first | ((fail_if_success (fail_if_success (with_reducible show wpAny _ _ (eval _ (compEnvC _ _ _ _)) (LCg.CompEnd _ _ _ _ _ _ _ _ _ _ _ _) _ _))); k_fold) | (k_unfold; (try dsimp only)) | walk1 | (dsimp only; walk1)))
  k_with "my steps" => (repeat' (first | ((fail_if_success (fail_if_success (with_reducible show wpAny _ _ (eval _ (compEnvC _ _ _ _)) (LCg.CompEnd _ _ _ _ _ _ _ _ _ _ _ _) _ _))); k_fold) | (k_unfold; (try dsimp only)) | walk1 | (dsimp only; walk1)))
  k_with "my bool" => first
    | ((with_reducible apply sel_one); (focus kernel_rfl!); kernel_rfl!)
    | ((with_reducible apply sel_two); (focus kernel_rfl!); kernel_rfl!)
    | ((with_reducible apply sel_no); (focus kernel_rfl!); kernel_rfl!)
    | ((with_reducible apply sel_in); (focus kernel_rfl!); kernel_rfl!)
    | kernel_rfl!
    | exact rfl
  k_with "my val" => first
    | ((with_reducible show Val _ _ _ _ _ _ _ _ (PySem.Expr.Name _ _) _); first
      | ((with_reducible apply val_local); (focus exact rfl); (focus exact rfl); (focus exact rfl); (focus exact rfl); decide)
      | ((with_reducible apply val_cell); (focus exact rfl); (focus exact rfl); (focus k_extra "my mem"); (focus k_asm); (focus exact rfl); (focus exact rfl); decide))
    | ((with_reducible show Val _ _ _ _ _ _ _ _ (PySem.Expr.Subscript _ _ _) _); (with_reducible apply val_item); (focus k_extra "my val"); (focus k_extra "my mem"); (focus (refine And.intro ?_ ?_; decide; exact rfl)); exact rfl)
    | ((with_reducible show Val _ _ _ _ _ _ _ _ (PySem.Expr.Subscript _ (PySem.Expr.Constant (PySem.Const.int 0) _ _) _) _); (with_reducible apply val_head); (focus k_extra "my val"); (focus with_reducible assumption); k_extra "my mem")
    | ((with_reducible show Val _ _ _ _ _ _ _ _ (PySem.Expr.Compare _ [PySem.CmpOp.Eq] _ _) _); (with_reducible apply val_eq); (focus k_extra "my val"); k_extra "my bool")
    | ((with_reducible show ValH _ _ _ _ _ _ _ _ (PySem.Expr.Compare _ [PySem.CmpOp.In] _ _) _); (with_reducible apply val_in); (focus k_extra "my val"); (focus exact rfl); (focus exact Nat.le_of_ble_eq_true rfl); k_extra "my bool")
  k_with "my tst" => first
    | ((with_reducible show Tst _ _ _ _ _ _ _ _ (PySem.Expr.Compare _ [PySem.CmpOp.In] _ _) _); (with_reducible apply tst_in); (focus k_extra "my val"); (focus exact rfl); (focus exact Nat.le_of_ble_eq_true rfl); k_extra "my bool")
    | ((with_reducible show Tst _ _ _ _ _ _ _ _ (PySem.Expr.Compare _ [PySem.CmpOp.Eq] [PySem.Expr.Constant _ _ _] _) _); (with_reducible apply tst_eq); (focus k_extra "my val"); k_extra "my bool")
    | ((with_reducible show Tst _ _ _ _ _ _ _ _ (PySem.Expr.Compare _ [PySem.CmpOp.NotEq] [PySem.Expr.Constant _ _ _] _) _); first
      | ((with_reducible apply tst_ne_f); (focus k_extra "my val"); k_extra "my bool")
      | ((with_reducible apply tst_ne_t); (focus k_extra "my val"); k_extra "my bool"))
    | ((with_reducible show Tst _ _ _ _ _ _ _ _ (PySem.Expr.Compare _ [PySem.CmpOp.Eq] [PySem.Expr.Name _ _] _) _); (with_reducible apply tst_eqb); (focus k_extra "my val"); (focus k_extra "my val"); exact rfl)
    | ((with_reducible show Tst _ _ _ _ _ _ _ _ (PySem.Expr.BoolOp _ _ _) _); first
      | ((with_reducible apply tst_or_no); (focus k_extra "my tst"); k_extra "my tst")
      | ((with_reducible apply tst_or_yes); k_extra "my tst"))
    | ((with_reducible show Tst _ _ _ _ _ _ _ _ (PySem.Expr.Name _ _) _); (with_reducible apply tst_val); (focus k_extra "my val"); intro _; rfl)
  k_with "execs cons If" => (k_here; k_dflt ((rename Fr _ _ _ _ => kF); (rename News _ _ _ _ => kN); first
    | (apply skip_use kF kN; (focus ((with_reducible apply skip_cons); (focus k_extra "my tst"); k_extra "my skip")); intro h' tk' F' N'; k_sweep)
    | ((with_reducible show wpAny _ _ (execs (PySem.Stmt.If _ [PySem.Stmt.Return (some _) _] _ _ :: _) _) _ _ _); refine s_yes kF kN ?_ ?_; (focus k_extra "my tst"); intro h' tk' F' N'; k_sweep)
    | (refine s_yes2 kF kN ?_ ?_; (focus k_extra "my tst"); intro h' tk' F' N'; k_sweep)))
  k_with "execs cons Return" => (k_here; with_reducible refine s_ret ?_)
  k_with "execs cons Assign" => (k_here; (with_reducible show wpAny _ _ (execs (PySem.Stmt.Assign [PySem.Expr.Name _ _] (PySem.Expr.Subscript _ (PySem.Expr.Constant _ _ _) _) _ :: _) _) _ _ _); k_dflt ((with_reducible apply s_let); (focus exact rfl); (focus k_asm); (focus k_asm); (focus k_extra "my val"); (focus exact rfl); (focus exact rfl); (focus exact rfl); intro h' tk' F' N'; k_sweep))
  k_with "ite" => first
    | (k_dflt (refine ite_pos ?_ ?_; (focus decide)))
    | (k_dflt (refine ite_neg ?_ ?_; (focus decide)))
    | (with_reducible refine ite_dec ?_ ?_ <;> intro _)
  k_with "eval Subscript" => (k_here; (with_reducible show wpAny _ _ (eval (PySem.Expr.Subscript _ (PySem.Expr.Constant _ _ _) _) _) _ _ _); k_dflt ((rename Fr _ _ _ _ => kF); (rename News _ _ _ _ => kN); apply e_val kF kN; (focus k_extra "my val"); intro tk'))
  k_with "eval Compare" => (k_here; k_dflt ((rename Fr _ _ _ _ => kF); (rename News _ _ _ _ => kN); first
    | ((with_reducible show wpAny _ _ (eval (PySem.Expr.Compare _ [PySem.CmpOp.In] _ _) _) _ _ _); apply e_valH kF kN; (focus k_extra "my val"); intro h' tk' F' N'; k_sweep)
    | (apply e_val kF kN; (focus k_extra "my val"); intro tk')))
  k_with "eval IfExp" => (k_here; k_dflt ((rename Fr _ _ _ _ => kF); (rename News _ _ _ _ => kN); first
    | ((with_reducible show wpAny _ _ (eval (PySem.Expr.IfExp _ (PySem.Expr.Constant (PySem.Const.str _) _ _) (PySem.Expr.Constant (PySem.Const.str _) _ _) _) _) _ _ _); apply e_sel kF kN; (focus k_extra "my tst"); intro h' tk' t' F' N'; k_sweep)
    | (refine e_no kF kN ?_ ?_; (focus k_extra "my tst"); intro h' tk' F' N'; k_sweep)
    | (refine e_yes kF kN ?_ ?_; (focus k_extra "my tst"); intro h' tk' F' N'; k_sweep)
    | (refine' e_if kF kN ?_ ?_ ?_; rotate_left; (focus k_extra "my tst"); (intro hc h' tk' F' N'; k_sweep); rotate_left; (intro hc h' tk' F' N'; k_sweep))))
  k_with "my val" => first
    | ((with_reducible show Val _ _ _ _ _ _ _ (compEnvC _ _ _ _) (PySem.Expr.Name _ _) _); first
      | ((with_reducible apply val_own); (focus k_extra "my mem"); (focus with_reducible assumption); (focus with_reducible assumption); (focus exact rfl); (focus exact rfl); decide)
      | ((with_reducible apply val_free); (focus exact rfl); (focus k_extra "my mem"); (focus k_asm); (focus exact rfl); (focus exact rfl); decide))
    | ((with_reducible show Val _ _ _ _ _ _ _ _ (PySem.Expr.UnaryOp _ _ _) _); (with_reducible apply val_not); k_extra "my val")
    | (with_reducible exact val_bool)
  k_with "my fn" => first
    | ((with_reducible show Val _ _ _ _ _ _ _ (compEnvC _ _ _ _) _ _); (with_reducible apply val_globC); (focus k_asm); (focus k_asm); (focus k_is); (focus exact rfl); (focus exact rfl); (focus exact rfl); decide)
    | ((with_reducible apply val_glob); (focus exact rfl); (focus k_asm); (focus k_asm); (focus k_is); (focus exact rfl); (focus exact rfl); decide)
  k_with "my arg" => first
    | (with_reducible exact arg_int)
    | (with_reducible exact arg_str)
    | ((with_reducible show Arg _ _ _ _ _ _ _ _ (PySem.Expr.BinOp _ _ _ _) _); (with_reducible apply arg_sub); k_extra "my val")
    | ((with_reducible apply arg_val); k_extra "my val")
  k_with "eval Call" => (k_here; k_dflt ((rename Fr _ _ _ _ => kF); (rename News _ _ _ _ => kN); first
    | ((with_reducible show wpAny _ _ (eval (PySem.Expr.Call (PySem.Expr.Name _ _) [_] [] _) _) _ _ _); apply e_call1 kF kN; (focus k_asm); (focus k_extra "my fn"); (focus k_is); (focus k_extra "my arg"); (focus exact rfl); (focus exact rfl); intro tk' t')
    | ((with_reducible show wpAny _ _ (eval (PySem.Expr.Call (PySem.Expr.Name _ _) [_, _] [] _) _) _ _ _); apply e_call2 kF kN; (focus k_asm); (focus k_extra "my fn"); (focus k_is); (focus k_extra "my arg"); (focus k_extra "my arg"); (focus exact rfl); (focus exact rfl); (focus exact rfl); (focus exact rfl); intro tk' t' u')
    | ((with_reducible show wpAny _ _ (eval (PySem.Expr.Call (PySem.Expr.Name _ _) [_, _, _] [] _) _) _ _ _); apply e_call3 kF kN; (focus k_asm); (focus k_extra "my fn"); (focus k_is); (focus k_extra "my arg"); (focus k_extra "my arg"); (focus k_extra "my arg"); (focus exact rfl); (focus exact rfl); (focus exact rfl); (focus exact rfl); (focus exact rfl); intro tk' t' u' v')))
  k_with "CompEnd" => (k_extra "my split"; k_dflt ((with_reducible apply comp_end); (focus k_asm); (focus k_asm); (focus k_extra "my mem"); (focus k_extra "my mem"); (focus k_extra "my mem"); (focus k_extra "my cut"); (focus (first | exact trivial | ((with_reducible apply src_at); k_extra "my mem") | k_extra "my mem"))))
  k_with "TupSrc" => (k_here; k_dflt ((with_reducible apply TupSrc.ledger); (focus exact rfl); (focus k_asm); (focus k_asm); (focus k_extra "my mem"); (focus (first | exact Nat.le_of_ble_eq_true rfl | size_fits)); intro g'; lcg_lit))
  k_with "subscriptTail" => (k_here; (with_reducible show wpAny _ _ (subscriptTail _ _ (Value.ref _) (Value.int _ _)) _ _ _); k_dflt ((with_reducible apply item_tupleT); (focus ((with_reducible apply News.isTup); (focus k_asm); k_extra "my mem")); (focus decide); (focus decide); (focus exact rfl); (focus exact rfl); k_whole))
  k_with "my cut1" => first
    | ((with_reducible apply Cut1.skip); k_extra "my cut1")
    | ((with_reducible apply Cut1.cons); (focus k_extra "my ne"); k_extra "my cut1")
    | ((with_reducible apply Cut1.base); k_extra "my off1")
  k_with "my above" => first
    | (with_reducible assumption)
    | (with_reducible exact above_nil)
    | ((with_reducible refine above_cons ?_ ?_); (focus with_reducible assumption); k_extra "my above")
    | ((with_reducible refine above_app ?_ ?_) <;> k_extra "my above")
  k_with "my ord" => first
    | (with_reducible assumption)
    | ((with_reducible refine ordU ?_ ?_) <;> k_extra "my ord")
  k_with "my lt" => ((with_reducible apply allLt_cons); (focus with_reducible assumption); k_extra "my lt")
  k_with "my ends" => first
    | (with_reducible exact Ends.base)
    | ((with_reducible apply Ends.app); k_extra "my ord")
    | ((with_reducible apply Ends.appR); (focus k_extra "my ends"); k_extra "my ord")
    | ((with_reducible apply Ends.cons); (focus k_extra "my lt"); k_extra "my ends")
    | ((with_reducible apply Ends.skip); k_extra "my ends")
  k_with "my ends" => ((with_reducible apply Ends.two); (focus k_extra "my ends"); k_extra "my above")
  k_with "my off1" => first
    | (with_reducible assumption)
    | ((with_reducible refine off1_lt ?_); with_reducible assumption)
    | ((with_reducible refine off1_all ?_); k_extra "my lt")
    | ((with_reducible refine off1_up ?_ (Nat.le_add_right _ 1)); k_extra "my lt")
    | ((with_reducible refine off1_up ?_ (Nat.le_succ_of_le (Nat.le_add_right _ 1))); k_extra "my lt")
    | ((with_reducible refine off1_up ?_ (Nat.le_succ_of_le (Nat.le_succ_of_le (Nat.le_add_right _ 1)))); k_extra "my lt")
    | ((with_reducible refine off1_app ?_ ?_) <;> k_extra "my off1")
  k_with "storeName" => (k_here; k_dflt (refine' store_cell ?F_r1 ?N_r1 ?c_r1 ?m_r1 ?k_r1 ?d_r1 ?_ ?a_r1 ?b_r1; (case a_r1 => rfl); (case b_r1 => rfl); (case c_r1 => rfl); (case F_r1 => k_asm); (case N_r1 => k_asm); (case m_r1 => k_extra "my mem"); (case k_r1 => k_extra "my cut1"); (case d_r1 => with_reducible assumption); k_whole); intro h' o' F' N' d'; (try dsimp only at N'); (try k_sweep))
  k_with "eval Dict cons cons" => (k_here; k_dflt (first
    | (refine' star_pair (knd := PySem.strKind _ _) ?F_r2 ?N_r2 ?sys_r2 ?_; (case F_r2 => k_asm); (case N_r2 => k_asm); (case sys_r2 => refine' sys_low ?T_r2 ?F_r2; (case T_r2 => k_asm); (case F_r2 => k_asm)))
    | (refine' star_two (knd := PySem.strKind _ _) ?F_r3 ?N_r3 ?sys_r3 ?_; (case F_r3 => k_asm); (case N_r3 => k_asm); (case sys_r3 => refine' sys_low ?T_r3 ?F_r3; (case T_r3 => k_asm); (case F_r3 => k_asm)))); intro d' h' F' N' l1 lo'; (try k_lt l1); (try k_sweep))
  k_with "Star1" => (k_extra "my split"; k_dflt (refine' star1 ?F_r4 ?N_r4 ?d_r4 ?e_r4 ?k_r4 ?m_r4 ?y_r4 ?l_r4 ?_; (case F_r4 => k_asm); (case N_r4 => k_asm); (case e_r4 => k_extra "my mem"); (case k_r4 => k_extra "my cut1"); (case m_r4 => refine' Sub.mem ?sm_r4 ?sn_r4; (case sn_r4 => with_reducible assumption); (case sm_r4 => k_extra "my sub")); (case y_r4 => with_reducible assumption); (case d_r4 => with_reducible assumption); (case l_r4 => with_reducible assumption)); intro o' sub' h' tk' d' F' N' off' l1 lt'; (try k_lt l1); (try k_sweep))
  k_with "Star2" => (k_extra "my split"; k_dflt (refine' star2 ?hk_r5 ?F_r5 ?N_r5 ?s_r5 ?e_r5 ?k_r5 ?k1_r5 ?_; (case hk_r5 => exact strKind_is _ _ _ _); (case F_r5 => k_asm); (case N_r5 => k_asm); (case s_r5 => k_extra "my mem"); (case e_r5 => k_extra "my mem"); (case k_r5 => k_extra "my cut1"); (case k1_r5 => k_extra "my cut1")); intro o' h' tk' d' F' N' off')
  k_with "TurnRest" => k_dflt (first
    | (refine TurnRest.cons ?_; intro it' h' tk' F' N' off'; (try simp only [LCg.Off1] at off'); (try simp only [List.cons_append, List.nil_append] at N'))
    | (refine TurnRest.nil ?_; intro h' tk' F' N'; (try simp only [List.cons_append, List.nil_append] at N')))
  k_with "TurnPost" => (dsimp only [TurnPost])
  k_with "TurnEnd" => (k_extra "my split"; k_dflt (refine' turn_end ?F_r6 ?N_r6 ?i_r6 ?k_r6 ?e_r6 ?_; (case F_r6 => k_asm); (case N_r6 => k_asm); (case i_r6 => k_extra "my mem"); (case k_r6 => k_extra "my cut1"); (case e_r6 => k_extra "my mem")))
  k_with "my walk" => (repeat' ((fail_if_success (with_reducible show LeaveK h₀ _ _ _ _ _ _)); first | (k_unfold; (try dsimp only)) | walk1 | (dsimp only; walk1)))
  k_with "TupSrcT" => ((k_here; k_dflt (refine' TupSrcT.ledger ?t1_p1 ?t2_p1 ?t3_p1 ?t4_p1 ?t5_p1 ?_; (case t1_p1 => rfl); (case t2_p1 => k_asm); (case t3_p1 => k_asm); (case t4_p1 => k_extra "my mem"); (case t5_p1 => exact Nat.le_of_ble_eq_true rfl); intro g'; lct_lit)))
  k_with "call type:dict" => ((k_here; k_dflt (refine' dict_pairs ?F_p2 ?N_p2 ?T_p2 ?hh_p2 ?u_p2 ?l_p2 ?p_p2 ?sb_p2 ?z_p2 ?_; (case F_p2 => k_asm); (case N_p2 => k_asm); (case T_p2 => k_asm); (case hh_p2 => rfl); (case u_p2 => ktr_units); (case l_p2 => k_extra "my mem"); (case p_p2 => first | exact (PrLed.nil (nk := [])) | (refine' PrLed.cons ?p1_p2 ?p2_p2 .nil; (case p1_p2 => k_extra "my mem"); (case p2_p2 => with_reducible assumption)) | (refine' PrLed.cons ?p1_p2 ?p2_p2 (PrLed.cons ?p3_p2 ?p4_p2 .nil); (case p1_p2 => k_extra "my mem"); (case p2_p2 => with_reducible assumption); (case p3_p2 => k_extra "my mem"); (case p4_p2 => with_reducible assumption))); (case sb_p2 => first | (with_reducible exact Sub.nil) | k_extra "my sub"); (case z_p2 => exact Nat.le_of_ble_eq_true rfl)); intro d' o' h' tk' l1 lo' F' N' T9'; (try k_lt l1)))
  k_with "compareOp Eq ref ref" => ((k_here; k_dflt (first
      | (refine' tup_nil ?N_p4 ?a_p4 ?b_p4 ?u_p4 ?_; (case N_p4 => k_asm); (case a_p4 => k_extra "my mem"); (case b_p4 => k_extra "my mem"); (case u_p4 => ktr_units); k_whole)
      | (refine' tup_one ?N_p4 ?a_p4 ?q_p4 ?b_p4 ?u_p4 ?_; (case N_p4 => k_asm); (case a_p4 => k_extra "my mem"); (case b_p4 => k_extra "my mem"); (case q_p4 => k_extra "my mem"); (case u_p4 => ktr_units); k_whole))))
  k_with "call ref" => (refine wpAny_call ?_; k_dflt k_extra "my enter")
  k_with "eval ListComp" => (k_here; k_dflt (first
    | ((with_reducible show wpAny _ _ (eval (PySem.Expr.ListComp _ [PySem.Comprehension.mk _ _ [_] _] _ _) _) _ _ _); refine' lct_tuple ?lF_b11 ?lc_b11 ?ld_b11 ?lk_b11 ?ln_b11 ?lx_b11 ?_ ?ls_b11; (case lF_b11 => k_asm); (case lc_b11 => with_unfolding_all rfl); (case ld_b11 => decide); (case lk_b11 => rfl); (case ln_b11 => decide); (case lx_b11 => rfl); (case ls_b11 => intro _; rfl))
    | ((with_reducible show wpAny _ _ (eval (PySem.Expr.ListComp _ [PySem.Comprehension.mk _ _ [] _] _ _) _) _ _ _); refine' lc_tuple (F₀ := ?lF_b12) ?lc_b12 ?ld_b12 ?lk_b12 ?ln_b12 ?lx_b12 ?_; (case lF_b12 => k_asm); (case lc_b12 => with_unfolding_all rfl); (case ld_b12 => decide); (case lk_b12 => rfl); (case ln_b12 => decide); (case lx_b12 => rfl))))
  refine wpAny_call ?_
  k_dflt ktr_enter
  (repeat ((fail_if_success (with_reducible show TupSrc _ _ _ _ _ _ _ _ _ _ _ _ _ _)); first | (k_unfold; (try dsimp only)) | walk1 | (dsimp only; walk1)))
  cases hA with
  | nil =>
    k_with "compareOp NotIn ref ref" => (k_here; k_dflt (refine' notin_pairs ?nN_b15 ?nd_b15 ?ny_b15 ?nH_b15 ?ns_b15 ?na_b15 ?nu_b15 ?_; (case nN_b15 => k_asm); (case nd_b15 => k_extra "my mem"); (case ny_b15 => with_reducible assumption); (case nH_b15 => with_reducible assumption); (case ns_b15 => k_extra "my sub"); (case na_b15 => k_extra "my mem"); (case nu_b15 => ktr_units)); intro tk9; (try simp only [List.any_nil, List.any_cons, Bool.or_false]); (try dsimp only))
    k_extra "my walk"
    all_goals (
      k_extra "my split"
      k_dflt (apply leave_P (Out := withinOut); (focus exact hret); (focus k_asm); (focus k_asm); (focus k_extra "my ends"))
      (refine' ⟨_, rfl, ?hx⟩; (case hx => simp [*])))
  | @cons q1 n1 x1 t1 vs1 xs1 ha hA =>
    cases hA with
    | nil =>
      k_with "compareOp NotIn ref ref" => (k_here; k_dflt (refine' notin_pairs ?nN_b29 ?nd_b29 ?ny_b29 ?nH_b29 ?ns_b29 ?na_b29 ?nu_b29 ?_; (case nN_b29 => k_asm); (case nd_b29 => k_extra "my mem"); (case ny_b29 => with_reducible assumption); (case nH_b29 => with_reducible assumption); (case ns_b29 => k_extra "my sub"); (case na_b29 => k_extra "my mem"); (case nu_b29 => ktr_units)); intro tk9; (try simp only [List.any_nil, List.any_cons, Bool.or_false]); (cases hb9 : (x1 == a0)); (all_goals (try dsimp only)))
      k_extra "my walk"
      all_goals (
        k_extra "my split"
        k_dflt (apply leave_P (Out := withinOut); (focus exact hret); (focus k_asm); (focus k_asm); (focus k_extra "my ends"))
        (refine' ⟨_, rfl, ?hx⟩; (case hx => simp [*])))
    | @cons q2 n2 x2 t2 vs2 xs2 ha2 hA =>
      cases hA with
      | nil =>
        k_with "compareOp NotIn ref ref" => (k_here; k_dflt (refine' notin_pairs ?nN_b43 ?nd_b43 ?ny_b43 ?nH_b43 ?ns_b43 ?na_b43 ?nu_b43 ?_; (case nN_b43 => k_asm); (case nd_b43 => k_extra "my mem"); (case ny_b43 => with_reducible assumption); (case nH_b43 => with_reducible assumption); (case ns_b43 => k_extra "my sub"); (case na_b43 => k_extra "my mem"); (case nu_b43 => ktr_units)); intro tk9; (try simp only [List.any_nil, List.any_cons, Bool.or_false]); (cases hb9 : (x1 == a0) <;> cases hb8 : (x2 == a0)); (all_goals (try dsimp only)))
        k_extra "my walk"
        all_goals (
          k_extra "my split"
          k_dflt (apply leave_P (Out := withinOut); (focus exact hret); (focus k_asm); (focus k_asm); (focus k_extra "my ends"))
          (refine' ⟨_, rfl, ?hx⟩; (case hx => simp [*])))
      | cons _ _ => exact absurd hl (by simp)
end Mine
namespace Mine
-- LOC9
theorem opened_ok (w : World) (mean : ExcName → Option Value) (mg mb : Str → Option Value) (S : Int → List Int) (d : List Int × List Int) :
    Ev w mean mg mb 164 (OpRel w) opSize opCost (opOut w S) S d := by
  unfold Ev
  k_fill
  intro dp un gd cn cs a ccd cl outer A₀ base h₀ L m news nr s vs Q E x dx i k1 k2 k3 t tw wy B F X N hoff T hk hx hs hI hw0 hw1 hR hd hu hret
  cases hR
  rename_i da ev dvs dn rs e hdm hdec hrs hl7 hE
  have hE' := hE
  cases hE'
  simp only [opSize] at hd hu
  simp only [opCost] at hw1
  have hw2 := capR_0 rs.length
  k_with_none
  k_with "my enter" => first
    | (refine' code_def ?k1_en0 ?k2_en0 ?k3_en0 ?k4_en0 ?k5_en0 ?kA_en0 ?kF_en0 ?kK_en0 ?k6_en0 ?k7_en0 ?k8_en0 ?k9_en0 ?kB_en0 ?_ ?c2_en0 ?c3_en0 ?c4_en0 ?c5_en0; (case kA_en0 => exact rfl); (case kF_en0 => exact rfl); (case kK_en0 => first | exact rfl | assumption); (case k1_en0 => k_asm); (case k2_en0 => k_asm); (case k3_en0 => k_asm); (case k4_en0 => k_asm); (case k5_en0 => k_asm); (case k6_en0 => k_is); (case k7_en0 => k_is); (case k8_en0 => ktr_room); (case k9_en0 => exact BindsTo.of_eq rfl); (case c5_en0 => decide); (case kB_en0 => exact locs rfl); (case c2_en0 => exact rfl); (case c3_en0 => exact rfl); (case c4_en0 => exact rfl); k_whole; intro g' L' h' FG' F' N' B' X' T'; (try dsimp only); (try k_fold))
    | (refine' code_defC ?k1_en1 ?k2_en1 ?k3_en1 ?k4_en1 ?k5_en1 ?kA_en1 ?kF_en1 ?kK_en1 ?k6_en1 ?k7_en1 ?k8_en1 ?k9_en1 ?kB_en1 ?kD_en1 ?_ ?c2_en1 ?c3_en1 ?c4_en1; (case kA_en1 => exact rfl); (case kF_en1 => exact rfl); (case kK_en1 => first | exact rfl | assumption); (case k1_en1 => k_asm); (case k2_en1 => k_asm); (case k3_en1 => k_asm); (case k4_en1 => k_asm); (case k5_en1 => k_asm); (case k6_en1 => k_is); (case k7_en1 => k_is); (case k8_en1 => ktr_room); (case k9_en1 => exact BindsTo.of_eq rfl); (case kB_en1 => exact rfl); (case kD_en1 => decide +kernel); (case c2_en1 => exact rfl); (case c3_en1 => exact rfl); (case c4_en1 => exact rfl); k_whole; intro g' L' h' tk' cells' FG' F' N' Y' B' X' T' l1; (try k_lt l1); (first | (refine cells1 Y' N' ?_; clear Y' N' cells'; intro o1' N' d1') | (refine cells2 Y' N' ?_; clear Y' N' cells'; intro o1' o2' N' d1' d2') | (refine cells3 Y' N' ?_; clear Y' N' cells'; intro o1' o2' o3' N' d1' d2' d3') | (refine cells4 Y' N' ?_; clear Y' N' cells'; intro o1' o2' o3' o4' N' d1' d2' d3' d4')); (repeat ((with_reducible rename (Obj.data _ = Data.cell (bindC _ _ _ _)) => hcl1); (first | (have hcl2 : Obj.data _ = Data.cell (some _) := hcl1) | (have hcl2 : Obj.data _ = Data.cell none := hcl1)); clear hcl1)); (try dsimp only); (try k_fold))
  k_with "my mem" => first
    | (with_reducible assumption)
    | (with_reducible exact List.mem_cons_self)
    | ((with_reducible refine mem_head ?_); exact rfl)
    | ((with_reducible refine List.mem_cons_of_mem _ ?_); k_extra "my mem")
    | ((with_reducible apply Sub.mem); (with_reducible assumption); (with_reducible assumption))
    | ((with_reducible refine List.mem_append.mpr (Or.inl ?_)); k_extra "my mem")
    | ((with_reducible refine List.mem_append.mpr (Or.inr ?_)); k_extra "my mem")
  k_with "my clean" => (repeat ((with_reducible rename (@Ne Nat _ _) => hNe); clear hNe))
  k_with "my split" => (repeat ((with_reducible rename (_ ∧ _) => hAnd); first | ((with_reducible refine (fun hAnd1 hAnd2 hAnd3 hAnd4 hAnd5 hAnd6 hAnd7 hAnd8 hAnd9 hAnd10 hAnd11 hAndR => ?_) (hAnd.1) (hAnd.2.1) (hAnd.2.2.1) (hAnd.2.2.2.1) (hAnd.2.2.2.2.1) (hAnd.2.2.2.2.2.1) (hAnd.2.2.2.2.2.2.1) (hAnd.2.2.2.2.2.2.2.1) (hAnd.2.2.2.2.2.2.2.2.1) (hAnd.2.2.2.2.2.2.2.2.2.1) (hAnd.2.2.2.2.2.2.2.2.2.2.1) (hAnd.2.2.2.2.2.2.2.2.2.2.2)); clear hAnd) | ((with_reducible refine (fun hAnd1 hAnd2 hAnd3 hAnd4 hAnd5 hAnd6 hAnd7 hAndR => ?_) (hAnd.1) (hAnd.2.1) (hAnd.2.2.1) (hAnd.2.2.2.1) (hAnd.2.2.2.2.1) (hAnd.2.2.2.2.2.1) (hAnd.2.2.2.2.2.2.1) (hAnd.2.2.2.2.2.2.2)); clear hAnd) | ((with_reducible refine (fun hAnd1 hAnd2 hAnd3 hAnd4 hAndR => ?_) (hAnd.1) (hAnd.2.1) (hAnd.2.2.1) (hAnd.2.2.2.1) (hAnd.2.2.2.2)); clear hAnd) | ((with_reducible refine (fun hAnd1 hAnd2 hAndR => ?_) (hAnd.1) (hAnd.2.1) (hAnd.2.2)); clear hAnd) | (have hAnd1 := And.left hAnd; have hAnd2 := And.right hAnd; clear hAnd)))
  k_with "my sub" => first
    | (with_reducible exact Sub.refl)
    | (with_reducible assumption)
    | (with_reducible exact Sub.nil)
    | (with_reducible refine Sub.app ?_ ?_ <;> k_extra "my sub")
    | ((with_reducible refine Sub.one ?_ ?_); k_extra "my mem"; k_extra "my sub")
    | ((with_reducible refine Sub.cons ?_); k_extra "my sub")
    | ((with_reducible refine Sub.left ?_); k_extra "my sub")
    | ((with_reducible refine Sub.right ?_); k_extra "my sub")
  k_with "my lt" => first
    | (with_reducible assumption)
    | ((with_reducible refine allLt_of ?_); with_reducible assumption)
    | ((with_reducible apply allLt_app); with_reducible assumption)
    | ((with_reducible apply allLt_app); with_reducible apply allLt_app; with_reducible assumption)
    | ((with_reducible apply allLt_app); with_reducible apply allLt_app; with_reducible apply allLt_app; with_reducible assumption)
    | ((with_reducible apply allLt_app); with_reducible apply allLt_app; with_reducible apply allLt_app; with_reducible apply allLt_app; with_reducible assumption)
    | ((with_reducible apply allLt_app); with_reducible apply allLt_app; with_reducible apply allLt_app; with_reducible apply allLt_app; with_reducible apply allLt_app; with_reducible assumption)
    | ((with_reducible apply allLt_app); with_reducible apply allLt_app; with_reducible apply allLt_app; with_reducible apply allLt_app; with_reducible apply allLt_app; with_reducible apply allLt_app; with_reducible assumption)
    | ((with_reducible apply allLt_app); with_reducible apply allLt_app; with_reducible apply allLt_app; with_reducible apply allLt_app; with_reducible apply allLt_app; with_reducible apply allLt_app; with_reducible apply allLt_app; with_reducible assumption)
  k_with "my ends" => first
    | (with_reducible exact Ends.base)
    | ((with_reducible apply Ends.app); with_reducible assumption)
    | ((with_reducible apply Ends.appR); (focus k_extra "my ends"); with_reducible assumption)
    | ((with_reducible apply Ends.cons); (focus k_extra "my lt"); k_extra "my ends")
    | ((with_reducible apply Ends.skip); k_extra "my ends")
  k_with "my ne" => first
    | (with_reducible assumption)
    | ((with_reducible refine Nat.ne_of_gt ?_); with_reducible assumption)
    | ((with_reducible refine Nat.ne_of_lt ?_); with_reducible assumption)
    | ((with_reducible refine Ne.symm ?_); with_reducible assumption)
    | ((with_reducible refine ne_up1 ?_); with_reducible assumption)
    | ((with_reducible refine ne_up2 ?_); with_reducible assumption)
    | ((with_reducible refine ne_up3 ?_); with_reducible assumption)
  k_with "my kne" => ((refine neN ?_); (try dsimp only); first
    | (k_extra "my ne")
    | exact Nat.ne_of_lt (Nat.lt_succ_self _)
    | exact Nat.ne_of_gt (Nat.lt_succ_self _)
    | exact Nat.ne_of_lt (Nat.lt_succ_of_lt (Nat.lt_succ_self _))
    | exact Nat.ne_of_gt (Nat.lt_succ_of_lt (Nat.lt_succ_self _))
    | ((refine Nat.ne_of_gt (Nat.lt_of_succ_lt ?_)); with_reducible assumption)
    | ((refine Nat.ne_of_gt (Nat.lt_of_succ_lt (Nat.lt_of_succ_lt ?_))); with_reducible assumption))
  k_with "my off" => first
    | (with_reducible assumption)
    | (with_reducible refine off3_lt ?_ ?_ ?_ <;> with_reducible assumption)
    | (with_reducible refine off3_app ?_ ?_ <;> k_extra "my off")
  k_with "my cut" => first
    | ((with_reducible apply Cut.skipI); k_extra "my cut")
    | ((with_reducible apply Cut.skipC); k_extra "my cut")
    | ((with_reducible apply Cut.skipD); k_extra "my cut")
    | ((with_reducible apply Cut.cons); (focus k_extra "my ne"); (focus k_extra "my ne"); (focus k_extra "my ne"); k_extra "my cut")
    | ((with_reducible apply Cut.base); k_extra "my off")
    | ((with_reducible apply Cut.skip); k_extra "my cut")
  k_with "my off1" => first
    | (with_reducible assumption)
    | ((with_reducible refine off1_lt ?_); with_reducible assumption)
    | (with_reducible refine off1_app ?_ ?_ <;> k_extra "my off1")
  k_with "my rel" => first
    | (with_reducible assumption)
    | ((with_reducible apply FIn.mono); (with_reducible assumption); k_extra "my sub")
    | ((with_reducible apply RelIn.mono); (with_reducible assumption); k_extra "my sub")
    | ((with_reducible apply VarIn.mono); (with_reducible assumption); k_extra "my sub")
    | ((with_reducible apply DecsIn.mono); (with_reducible assumption); k_extra "my sub")
    | ((with_reducible apply RelIn.mk); (focus k_extra "my mem"); (refine And.intro ?_ ?_ <;> with_reducible assumption))
    | ((with_reducible apply VarIn.mk); k_extra "my mem")
    | (with_reducible exact DecsIn.nil)
    | ((with_reducible apply DecsIn.cons); (focus ((with_reducible apply DecIn.at); (focus k_extra "my mem"); (focus (k_extra "my clean"; omega)); k_extra "my rel")); k_extra "my rel")
  k_with "my less" => first
    | exact Nat.lt_succ_self _
    | exact Nat.lt_succ_of_le (Nat.le_max_left _ _)
    | exact Nat.lt_succ_of_le (Nat.le_max_right _ _)
  k_with "my fin" => first
    | (k_extra "my rel")
    | ((with_reducible apply FIn.tf); k_extra "my mem")
    | ((with_reducible apply FIn.not); (focus k_extra "my mem"); k_extra "my fin")
    | ((with_reducible apply FIn.con0); (focus k_extra "my mem"); k_extra "my mem")
    | ((with_reducible apply FIn.con1); (focus k_extra "my mem"); (focus k_extra "my mem"); k_extra "my fin")
    | ((with_reducible apply FIn.con2); (focus k_extra "my mem"); (focus k_extra "my mem"); (focus k_extra "my fin"); k_extra "my fin")
    | ((with_reducible apply FIn.imp); (focus k_extra "my mem"); (focus k_extra "my fin"); k_extra "my fin")
    | ((with_reducible apply FIn.iff); (focus k_extra "my mem"); (focus k_extra "my fin"); k_extra "my fin")
    | ((with_reducible apply FIn.qu); (focus k_extra "my mem"); (focus k_extra "my mem"); (focus k_extra "my rel"); k_extra "my fin")
    | ((with_reducible apply FIn.some); (focus k_extra "my mem"); k_extra "my rel")
    | ((with_reducible apply FIn.inn); (focus k_extra "my mem"); (focus k_extra "my rel"); k_extra "my rel")
  k_with "my skip" => first
    | ((with_reducible apply skip_cons); (focus k_extra "my tst"); k_extra "my skip")
    | (with_reducible exact skip_nil)
  k_with "my walk" => (repeat' ((fail_if_success (with_reducible show LeaveK h₀ _ _ _ _ _ _)); first | ((fail_if_success (fail_if_success (with_reducible show wpAny _ _ (eval _ (compEnvC _ _ _ _)) (LCg.CompEnd _ _ _ _ _ _ _ _ _ _ _ _) _ _))); k_fold) | (k_unfold; (try dsimp only)) | walk1 | (dsimp only; walk1)))
  k_with "my steps" => (repeat' (first | ((fail_if_success (fail_if_success (with_reducible show wpAny _ _ (eval _ (compEnvC _ _ _ _)) (LCg.CompEnd _ _ _ _ _ _ _ _ _ _ _ _) _ _))); k_fold) | (k_unfold; (try dsimp only)) | walk1 | (dsimp only; walk1)))
  k_with "my bool" => first
    | ((with_reducible apply sel_one); (focus kernel_rfl!); kernel_rfl!)
    | ((with_reducible apply sel_two); (focus kernel_rfl!); kernel_rfl!)
    | ((with_reducible apply sel_no); (focus kernel_rfl!); kernel_rfl!)
    | ((with_reducible apply sel_in); (focus kernel_rfl!); kernel_rfl!)
    | kernel_rfl!
    | exact rfl
  k_with "my val" => first
    | ((with_reducible show Val _ _ _ _ _ _ _ _ (PySem.Expr.Name _ _) _); first
      | ((with_reducible apply val_local); (focus exact rfl); (focus exact rfl); (focus exact rfl); (focus exact rfl); decide)
      | ((with_reducible apply val_cell); (focus exact rfl); (focus exact rfl); (focus k_extra "my mem"); (focus k_asm); (focus exact rfl); (focus exact rfl); decide))
    | ((with_reducible show Val _ _ _ _ _ _ _ _ (PySem.Expr.Subscript _ _ _) _); (with_reducible apply val_item); (focus k_extra "my val"); (focus k_extra "my mem"); (focus (refine And.intro ?_ ?_; decide; exact rfl)); exact rfl)
    | ((with_reducible show Val _ _ _ _ _ _ _ _ (PySem.Expr.Subscript _ (PySem.Expr.Constant (PySem.Const.int 0) _ _) _) _); (with_reducible apply val_head); (focus k_extra "my val"); (focus with_reducible assumption); k_extra "my mem")
    | ((with_reducible show Val _ _ _ _ _ _ _ _ (PySem.Expr.Compare _ [PySem.CmpOp.Eq] _ _) _); (with_reducible apply val_eq); (focus k_extra "my val"); k_extra "my bool")
    | ((with_reducible show ValH _ _ _ _ _ _ _ _ (PySem.Expr.Compare _ [PySem.CmpOp.In] _ _) _); (with_reducible apply val_in); (focus k_extra "my val"); (focus exact rfl); (focus exact Nat.le_of_ble_eq_true rfl); k_extra "my bool")
  k_with "my tst" => first
    | ((with_reducible show Tst _ _ _ _ _ _ _ _ (PySem.Expr.Compare _ [PySem.CmpOp.In] _ _) _); (with_reducible apply tst_in); (focus k_extra "my val"); (focus exact rfl); (focus exact Nat.le_of_ble_eq_true rfl); k_extra "my bool")
    | ((with_reducible show Tst _ _ _ _ _ _ _ _ (PySem.Expr.Compare _ [PySem.CmpOp.Eq] [PySem.Expr.Constant _ _ _] _) _); (with_reducible apply tst_eq); (focus k_extra "my val"); k_extra "my bool")
    | ((with_reducible show Tst _ _ _ _ _ _ _ _ (PySem.Expr.Compare _ [PySem.CmpOp.NotEq] [PySem.Expr.Constant _ _ _] _) _); first
      | ((with_reducible apply tst_ne_f); (focus k_extra "my val"); k_extra "my bool")
      | ((with_reducible apply tst_ne_t); (focus k_extra "my val"); k_extra "my bool"))
    | ((with_reducible show Tst _ _ _ _ _ _ _ _ (PySem.Expr.Compare _ [PySem.CmpOp.Eq] [PySem.Expr.Name _ _] _) _); (with_reducible apply tst_eqb); (focus k_extra "my val"); (focus k_extra "my val"); exact rfl)
    | ((with_reducible show Tst _ _ _ _ _ _ _ _ (PySem.Expr.BoolOp _ _ _) _); first
      | ((with_reducible apply tst_or_no); (focus k_extra "my tst"); k_extra "my tst")
      | ((with_reducible apply tst_or_yes); k_extra "my tst"))
    | ((with_reducible show Tst _ _ _ _ _ _ _ _ (PySem.Expr.Name _ _) _); (with_reducible apply tst_val); (focus k_extra "my val"); intro _; rfl)
  k_with "execs cons If" => (k_here; k_dflt ((rename Fr _ _ _ _ => kF); (rename News _ _ _ _ => kN); first
    | (apply skip_use kF kN; (focus ((with_reducible apply skip_cons); (focus k_extra "my tst"); k_extra "my skip")); intro h' tk' F' N'; k_sweep)
    | ((with_reducible show wpAny _ _ (execs (PySem.Stmt.If _ [PySem.Stmt.Return (some _) _] _ _ :: _) _) _ _ _); refine s_yes kF kN ?_ ?_; (focus k_extra "my tst"); intro h' tk' F' N'; k_sweep)
    | (refine s_yes2 kF kN ?_ ?_; (focus k_extra "my tst"); intro h' tk' F' N'; k_sweep)))
  k_with "execs cons Return" => (k_here; with_reducible refine s_ret ?_)
  k_with "execs cons Assign" => (k_here; (with_reducible show wpAny _ _ (execs (PySem.Stmt.Assign [PySem.Expr.Name _ _] (PySem.Expr.Subscript _ (PySem.Expr.Constant _ _ _) _) _ :: _) _) _ _ _); k_dflt ((with_reducible apply s_let); (focus exact rfl); (focus k_asm); (focus k_asm); (focus k_extra "my val"); (focus exact rfl); (focus exact rfl); (focus exact rfl); intro h' tk' F' N'; k_sweep))
  k_with "ite" => first
    | (k_dflt (refine ite_pos ?_ ?_; (focus decide)))
    | (k_dflt (refine ite_neg ?_ ?_; (focus decide)))
    | (with_reducible refine ite_dec ?_ ?_ <;> intro _)
  k_with "eval Subscript" => (k_here; (with_reducible show wpAny _ _ (eval (PySem.Expr.Subscript _ (PySem.Expr.Constant _ _ _) _) _) _ _ _); k_dflt ((rename Fr _ _ _ _ => kF); (rename News _ _ _ _ => kN); apply e_val kF kN; (focus k_extra "my val"); intro tk'))
  k_with "eval Compare" => (k_here; k_dflt ((rename Fr _ _ _ _ => kF); (rename News _ _ _ _ => kN); first
    | ((with_reducible show wpAny _ _ (eval (PySem.Expr.Compare _ [PySem.CmpOp.In] _ _) _) _ _ _); apply e_valH kF kN; (focus k_extra "my val"); intro h' tk' F' N'; k_sweep)
    | (apply e_val kF kN; (focus k_extra "my val"); intro tk')))
  k_with "eval IfExp" => (k_here; k_dflt ((rename Fr _ _ _ _ => kF); (rename News _ _ _ _ => kN); first
    | ((with_reducible show wpAny _ _ (eval (PySem.Expr.IfExp _ (PySem.Expr.Constant (PySem.Const.str _) _ _) (PySem.Expr.Constant (PySem.Const.str _) _ _) _) _) _ _ _); apply e_sel kF kN; (focus k_extra "my tst"); intro h' tk' t' F' N'; k_sweep)
    | (refine e_no kF kN ?_ ?_; (focus k_extra "my tst"); intro h' tk' F' N'; k_sweep)
    | (refine e_yes kF kN ?_ ?_; (focus k_extra "my tst"); intro h' tk' F' N'; k_sweep)
    | (refine' e_if kF kN ?_ ?_ ?_; rotate_left; (focus k_extra "my tst"); (intro hc h' tk' F' N'; k_sweep); rotate_left; (intro hc h' tk' F' N'; k_sweep))))
  k_with "my val" => first
    | ((with_reducible show Val _ _ _ _ _ _ _ (compEnvC _ _ _ _) (PySem.Expr.Name _ _) _); first
      | ((with_reducible apply val_own); (focus k_extra "my mem"); (focus with_reducible assumption); (focus with_reducible assumption); (focus exact rfl); (focus exact rfl); decide)
      | ((with_reducible apply val_free); (focus exact rfl); (focus k_extra "my mem"); (focus k_asm); (focus exact rfl); (focus exact rfl); decide))
    | ((with_reducible show Val _ _ _ _ _ _ _ _ (PySem.Expr.UnaryOp _ _ _) _); (with_reducible apply val_not); k_extra "my val")
    | (with_reducible exact val_bool)
  k_with "my fn" => first
    | ((with_reducible show Val _ _ _ _ _ _ _ (compEnvC _ _ _ _) _ _); (with_reducible apply val_globC); (focus k_asm); (focus k_asm); (focus k_is); (focus exact rfl); (focus exact rfl); (focus exact rfl); decide)
    | ((with_reducible apply val_glob); (focus exact rfl); (focus k_asm); (focus k_asm); (focus k_is); (focus exact rfl); (focus exact rfl); decide)
  k_with "my arg" => first
    | (with_reducible exact arg_int)
    | (with_reducible exact arg_str)
    | ((with_reducible show Arg _ _ _ _ _ _ _ _ (PySem.Expr.BinOp _ _ _ _) _); (with_reducible apply arg_sub); k_extra "my val")
    | ((with_reducible apply arg_val); k_extra "my val")
  k_with "eval Call" => (k_here; k_dflt ((rename Fr _ _ _ _ => kF); (rename News _ _ _ _ => kN); first
    | ((with_reducible show wpAny _ _ (eval (PySem.Expr.Call (PySem.Expr.Name _ _) [_] [] _) _) _ _ _); apply e_call1 kF kN; (focus k_asm); (focus k_extra "my fn"); (focus k_is); (focus k_extra "my arg"); (focus exact rfl); (focus exact rfl); intro tk' t')
    | ((with_reducible show wpAny _ _ (eval (PySem.Expr.Call (PySem.Expr.Name _ _) [_, _] [] _) _) _ _ _); apply e_call2 kF kN; (focus k_asm); (focus k_extra "my fn"); (focus k_is); (focus k_extra "my arg"); (focus k_extra "my arg"); (focus exact rfl); (focus exact rfl); (focus exact rfl); (focus exact rfl); intro tk' t' u')
    | ((with_reducible show wpAny _ _ (eval (PySem.Expr.Call (PySem.Expr.Name _ _) [_, _, _] [] _) _) _ _ _); apply e_call3 kF kN; (focus k_asm); (focus k_extra "my fn"); (focus k_is); (focus k_extra "my arg"); (focus k_extra "my arg"); (focus k_extra "my arg"); (focus exact rfl); (focus exact rfl); (focus exact rfl); (focus exact rfl); (focus exact rfl); intro tk' t' u' v')))
  k_with "CompEnd" => (k_extra "my split"; k_dflt ((with_reducible apply comp_end); (focus k_asm); (focus k_asm); (focus k_extra "my mem"); (focus k_extra "my mem"); (focus k_extra "my mem"); (focus k_extra "my cut"); (focus (first | exact trivial | ((with_reducible apply src_at); k_extra "my mem") | k_extra "my mem"))))
  k_with "TupSrc" => (k_here; k_dflt ((with_reducible apply TupSrc.ledger); (focus exact rfl); (focus k_asm); (focus k_asm); (focus k_extra "my mem"); (focus (first | exact Nat.le_of_ble_eq_true rfl | size_fits)); intro g'; lcg_lit))
  k_with "subscriptTail" => (k_here; (with_reducible show wpAny _ _ (subscriptTail _ _ (Value.ref _) (Value.int _ _)) _ _ _); k_dflt ((with_reducible apply item_tupleT); (focus ((with_reducible apply News.isTup); (focus k_asm); k_extra "my mem")); (focus decide); (focus decide); (focus exact rfl); (focus exact rfl); k_whole))
  k_with "my cut1" => first
    | ((with_reducible apply Cut1.skip); k_extra "my cut1")
    | ((with_reducible apply Cut1.cons); (focus k_extra "my ne"); k_extra "my cut1")
    | ((with_reducible apply Cut1.base); k_extra "my off1")
  k_with "my above" => first
    | (with_reducible assumption)
    | (with_reducible exact above_nil)
    | ((with_reducible refine above_cons ?_ ?_); (focus with_reducible assumption); k_extra "my above")
    | ((with_reducible refine above_app ?_ ?_) <;> k_extra "my above")
  k_with "my ord" => first
    | (with_reducible assumption)
    | ((with_reducible refine ordU ?_ ?_) <;> k_extra "my ord")
  k_with "my lt" => ((with_reducible apply allLt_cons); (focus with_reducible assumption); k_extra "my lt")
  k_with "my ends" => first
    | (with_reducible exact Ends.base)
    | ((with_reducible apply Ends.app); k_extra "my ord")
    | ((with_reducible apply Ends.appR); (focus k_extra "my ends"); k_extra "my ord")
    | ((with_reducible apply Ends.cons); (focus k_extra "my lt"); k_extra "my ends")
    | ((with_reducible apply Ends.skip); k_extra "my ends")
  k_with "my ends" => ((with_reducible apply Ends.two); (focus k_extra "my ends"); k_extra "my above")
  k_with "my off1" => first
    | (with_reducible assumption)
    | ((with_reducible refine off1_lt ?_); with_reducible assumption)
    | ((with_reducible refine off1_all ?_); k_extra "my lt")
    | ((with_reducible refine off1_up ?_ (Nat.le_add_right _ 1)); k_extra "my lt")
    | ((with_reducible refine off1_up ?_ (Nat.le_succ_of_le (Nat.le_add_right _ 1))); k_extra "my lt")
    | ((with_reducible refine off1_up ?_ (Nat.le_succ_of_le (Nat.le_succ_of_le (Nat.le_add_right _ 1)))); k_extra "my lt")
    | ((with_reducible refine off1_app ?_ ?_) <;> k_extra "my off1")
  k_with "storeName" => (k_here; k_dflt (refine' store_cell ?F_r1 ?N_r1 ?c_r1 ?m_r1 ?k_r1 ?d_r1 ?_ ?a_r1 ?b_r1; (case a_r1 => rfl); (case b_r1 => rfl); (case c_r1 => rfl); (case F_r1 => k_asm); (case N_r1 => k_asm); (case m_r1 => k_extra "my mem"); (case k_r1 => k_extra "my cut1"); (case d_r1 => with_reducible assumption); k_whole); intro h' o' F' N' d'; (try dsimp only at N'); (try k_sweep))
  k_with "eval Dict cons cons" => (k_here; k_dflt (first
    | (refine' star_pair (knd := PySem.strKind _ _) ?F_r2 ?N_r2 ?sys_r2 ?_; (case F_r2 => k_asm); (case N_r2 => k_asm); (case sys_r2 => refine' sys_low ?T_r2 ?F_r2; (case T_r2 => k_asm); (case F_r2 => k_asm)))
    | (refine' star_two (knd := PySem.strKind _ _) ?F_r3 ?N_r3 ?sys_r3 ?_; (case F_r3 => k_asm); (case N_r3 => k_asm); (case sys_r3 => refine' sys_low ?T_r3 ?F_r3; (case T_r3 => k_asm); (case F_r3 => k_asm)))); intro d' h' F' N' l1 lo'; (try k_lt l1); (try k_sweep))
  k_with "Star1" => (k_extra "my split"; k_dflt (refine' star1 ?F_r4 ?N_r4 ?d_r4 ?e_r4 ?k_r4 ?m_r4 ?y_r4 ?l_r4 ?_; (case F_r4 => k_asm); (case N_r4 => k_asm); (case e_r4 => k_extra "my mem"); (case k_r4 => k_extra "my cut1"); (case m_r4 => refine' Sub.mem ?sm_r4 ?sn_r4; (case sn_r4 => with_reducible assumption); (case sm_r4 => k_extra "my sub")); (case y_r4 => with_reducible assumption); (case d_r4 => with_reducible assumption); (case l_r4 => with_reducible assumption)); intro o' sub' h' tk' d' F' N' off' l1 lt'; (try k_lt l1); (try k_sweep))
  k_with "Star2" => (k_extra "my split"; k_dflt (refine' star2 ?hk_r5 ?F_r5 ?N_r5 ?s_r5 ?e_r5 ?k_r5 ?k1_r5 ?_; (case hk_r5 => exact strKind_is _ _ _ _); (case F_r5 => k_asm); (case N_r5 => k_asm); (case s_r5 => k_extra "my mem"); (case e_r5 => k_extra "my mem"); (case k_r5 => k_extra "my cut1"); (case k1_r5 => k_extra "my cut1")); intro o' h' tk' d' F' N' off')
  k_with "TurnRest" => k_dflt (first
    | (refine TurnRest.cons ?_; intro it' h' tk' F' N' off'; (try simp only [LCg.Off1] at off'); (try simp only [List.cons_append, List.nil_append] at N'))
    | (refine TurnRest.nil ?_; intro h' tk' F' N'; (try simp only [List.cons_append, List.nil_append] at N')))
  k_with "TurnPost" => (dsimp only [TurnPost])
  k_with "TurnEnd" => (k_extra "my split"; k_dflt (refine' turn_end ?F_r6 ?N_r6 ?i_r6 ?k_r6 ?e_r6 ?_; (case F_r6 => k_asm); (case N_r6 => k_asm); (case i_r6 => k_extra "my mem"); (case k_r6 => k_extra "my cut1"); (case e_r6 => k_extra "my mem")))
  k_with "execs cons" => ((try k_fold); (with_reducible refine wpAny_execs_cons ?_); try dsimp only)
  k_with "my mem" => (first | (with_reducible refine' Sub.mem ?sm_p3 ?sn_p3; (case sn_p3 => with_reducible assumption); (case sm_p3 => k_extra "my sub")) | fail)
  k_with "my off1" => ((with_reducible refine' off1_cons ?oa_p4 ?ob_p4; (case oa_p4 => k_extra "my ne"); (case ob_p4 => k_extra "my off1")))
  k_with "exec For Tuple Name cons nil" => (k_here; (rename Fr _ _ _ _ => lF'); k_dflt (refine' For_turns lF' ?_ ?hs9_b14; (case hs9_b14 => intro _; rfl); k_whole))
  k_with "exec For Name Name cons nil" => (k_here; (rename Fr _ _ _ _ => lF'); k_dflt (refine' For_turns lF' ?_ ?hs9_b15; (case hs9_b15 => intro _; rfl); k_whole))
  k_with "pyIter ref" => first | ((k_dflt (refine' for_tup ?t1_b16 ?t2_b16 ?t3_b16 ?t4_b16 ?_; (case t1_b16 => rfl); (case t2_b16 => k_asm); (case t3_b16 => k_asm); (case t4_b16 => exact Sub.mem (by k_extra "my sub") hdm)); intro I9 hI9; (try k_lt hI9); k_extra "my split"; (k_dflt (refine' decs_loop (nf := (PySem.Str.ofString "found")) (n1 := (PySem.Str.ofString "name")) (n2 := (PySem.Str.ofString "expr")) (n3 := (PySem.Str.ofString "late")) (n4 := (PySem.Str.ofString "atoms")) (n5 := (PySem.Str.ofString "one")) (n6 := (PySem.Str.ofString "rows")) (n7 := (PySem.Str.ofString "row")) (n8 := (PySem.Str.ofString "inner")) (S := S) (rs := rs) (e0 := e) ?dX_b16 ?dc_b16 ?de_b16 hs ?df_b16 ?dm_b16 ?dP_b16 hdec hrs hw0 (S_le hI) ?dturn_b16 ?ddone_b16; (case dX_b16 => k_extra "my mem"); (case dc_b16 => k_extra "my cut1"); (case de_b16 => k_extra "my ends"); (case df_b16 => rfl); (case dm_b16 => k_extra "my mem"); (case dP_b16 => (refine' .cons ?p1_b16 .nil; (case p1_b16 => refine' .mk ?p2_b16 ?p3_b16 ?p4_b16 ?p5_b16; (case p2_b16 => k_extra "my mem"); (case p3_b16 => k_extra "my mem"); (case p4_b16 => exact Nat.le_refl 0); (case p5_b16 => exact hE.mono (by k_extra "my sub"))))))); (case' ddone_b16 => (intro u8 f8 vs8 kf8 tl8 wy8 tw8 h8 tk8 hP8 hf8 ho8 hx8 w80 w81 F8 N8; (try simp only [List.forall_mem_cons, List.forall_mem_append] at ho8); (try simp only [List.nil_append, List.cons_append] at N8); k_extra "my split")); (case' dturn_b16 => (intro bs9 ps9 hb9 hdx9 pl9 nps9 v9 k9 r9 es9 c9 vs9 f9 kf9 tl9 wy9 tw9 u9 it9 h9 tk9 hd9 hr9 hk9 hP9 hc9 hf9 hl9 he9 w90 w91 ho9 hx9 F9 N9 off9; (have nr9 : Sub nr bs9 := (by rw [hb9]; k_extra "my sub")); (have xx9 : (x, instObj 210 dx) ∈ bs9 := (by rw [hb9]; k_extra "my mem")); clear hb9; (try simp only [List.forall_mem_cons, List.forall_mem_append] at ho9); (try simp only [List.nil_append, List.cons_append] at N9); (try simp only [List.cons_append, List.nil_append, LCg.Off1] at off9); k_extra "my split"; cases hd9; rename_i hrel9; cases hrel9)))) | ((k_dflt (refine' for_list ?t1_b16 ?t2_b16 ?t3_b16 ?t4_b16 ?_; (case t1_b16 => rfl); (case t2_b16 => k_asm); (case t3_b16 => k_asm); (case t4_b16 => exact Sub.mem (by k_extra "my sub") hf9)); intro I7 hI7; (try k_lt hI7); k_extra "my split"; (k_dflt (refine' eps_loop (n1 := (PySem.Str.ofString "atoms")) (n2 := (PySem.Str.ofString "one")) (n3 := (PySem.Str.ofString "rows")) (n4 := (PySem.Str.ofString "row")) (n5 := (PySem.Str.ofString "inner")) (c := c9 + 1) (xs := S r9) ?eD_b16 ?eX_b16 ?ec_b16 ?ed_b16 hP9 ?eP_b16 (S_le hI _ ⟨by assumption, by assumption⟩) he9 w90 ?eturn_b16 ?edone_b16; (case eD_b16 => k_extra "my mem"); (case eX_b16 => k_extra "my mem"); (case ec_b16 => k_extra "my cut1"); (case ed_b16 => k_extra "my cut1"); (case eP_b16 => k_extra "my sub"))); (case' edone_b16 => (intro u6 ys6 k6 tl6 wy6 tw6 h6 tk6 hP6 ho6 hD6 hx6 w60 w61 F6 N6; (try simp only [List.forall_mem_cons, List.forall_mem_append] at ho6); (try simp only [List.nil_append, List.cons_append] at N6); k_extra "my split")); (case' eturn_b16 => (intro bs7 hb7 hoD7 hox7 pl7 q7 at7 en7 nq7 na7 its7 e7 es7 ys7 kk7 tl7 wy7 tw7 u7 it7 h7 tk7 hq7 hat7 hits7 hE7 he7 hP7 hes7 w70 w71 ho7 hD7 hx7 F7 N7 off7; (have nr7 : Sub nr bs7 := (by rw [hb7]; k_extra "my sub")); (have xx7 : (x, instObj 210 dx) ∈ bs7 := (by rw [hb7]; k_extra "my mem")); (have ent7 : (f9, cellsO vs9 kf9) ∈ bs7 := (by rw [hb7]; exact Sub.mem (by k_extra "my sub") hf9)); clear hb7; (try simp only [List.forall_mem_cons, List.forall_mem_append] at ho7); (try simp only [List.nil_append, List.cons_append] at N7); (try simp only [List.cons_append, List.nil_append, LCg.Off1] at off7); k_extra "my split")))) | ((k_dflt (refine' for_tup ?t1_b16 ?t2_b16 ?t3_b16 ?t4_b16 ?_; (case t1_b16 => rfl); (case t2_b16 => k_asm); (case t3_b16 => k_asm); (case t4_b16 => exact Sub.mem (by k_extra "my sub") hs5)); intro I5 hI5; (try k_lt hI5); k_extra "my split"; (k_dflt (refine' atoms_loop (n1 := (PySem.Str.ofString "row")) (n2 := (PySem.Str.ofString "inner")) (c := c9 + 1) (e := e7) ?aD_b16 ?ac_b16 hi5 hP7 ?aP_b16 hl5 ?aturn_b16 ?adone_b16; (case aD_b16 => k_extra "my mem"); (case ac_b16 => k_extra "my cut1"); (case aP_b16 => k_extra "my sub"))); (case' adone_b16 => (intro u4 ys4 k4 tl4 h4 tk4 hP4 ho4 hD4 F4 N4; (try simp only [List.forall_mem_cons, List.forall_mem_append] at ho4); (try simp only [List.nil_append, List.cons_append] at N4); k_extra "my split")); (case' aturn_b16 => (intro bs5 hb5 hoD5 pl5 q5 a5 t5 nq5 ys5 kk5 tl5 u5 it5 h5 tk5 ha5 hq5 hy5 ho5 hD5 F5 N5 off5; (have nr5 : Sub nr bs5 := (by rw [hb5]; k_extra "my sub")); (have ent5 : (b5, tupO vs5 n5) ∈ bs5 := (by rw [hb5]; exact Sub.mem (by k_extra "my sub") hs5)); (have at5 : (at7, tupO its7 na7) ∈ bs5 := (by rw [hb5]; k_extra "my mem")); clear hb5; (have pl59 : Sub (ps9 ++ tl9) bs5 := fun p hp => pl5 p (List.mem_append.mpr (Or.inl hp))); (have hE5' := hE7); cases hE5'; rename_i oe5 kvs5 hde5 hme5 hye5 hke5 hle5; (have hkl5 := ekv_le hke5 hle5); (try simp only [List.forall_mem_cons, List.forall_mem_append] at ho5); (try simp only [List.nil_append, List.cons_append] at N5); (try simp only [List.cons_append, List.nil_append, LCg.Off1] at off5); k_extra "my split"))))
  k_with "subscriptTail Name Subscript" => (k_here; k_dflt (((with_reducible show wpAny _ _ (subscriptTail _ _ (Value.ref _) (Value.int _ _)) _ _ _); refine' inst_at ?N_b17 hI ?s_b17 ?r_b17 ?_; (case N_b17 => k_asm); (case s_b17 => k_extra "my sub"); (case r_b17 => first | (with_reducible assumption) | exact ⟨by assumption, by assumption⟩)); intro b5 n5 vs5 hs5 hi5 hl5))
  k_with "call builtin:len" => (k_here; k_dflt (refine' len_atoms ?N_b18 ?m_b18 hi5 hl5 ?_; (case N_b18 => k_asm); (case m_b18 => refine' Sub.mem ?sm_b18 ?sn_b18; (case sn_b18 => exact hs5); (case sm_b18 => k_extra "my sub"))); intro t9 tk9)
  k_with "ite" => (k_dflt (refine ite_neg ?hc9_b19 ?_; (case hc9_b19 => (simp only [decide_eq_true_eq]; k_extra "my clean"; omega))))
  k_with "call type:dict" => (k_here; k_dflt (refine' dict_env ?nF_b20 ?nN_b20 ?nT_b20 ?nm_b20 hye5 hde5 hkl5 ?_; (case nF_b20 => k_asm); (case nN_b20 => k_asm); (case nT_b20 => k_asm); (case nm_b20 => k_extra "my mem")); intro D3 o3 h3 F3 N3 l3 hy3 hd3; (try k_lt l3))
  k_with "setItem ref str" => (k_here; k_extra "my split"; k_dflt (refine' set_env ?sF_b21 ?sN_b21 ?sm_b21 ?sc_b21 hd3 hkl5 ?_; (case sF_b21 => k_asm); (case sN_b21 => k_asm); (case sm_b21 => k_extra "my mem"); (case sc_b21 => k_extra "my cut1")); intro h2 o2 tk2 F2 N2 hd2)
  k_with "call builtin:list.append" => (k_here; k_extra "my split"; k_dflt (refine' append_led ?pF_b22 ?pN_b22 ?pm_b22 ?pc_b22 ?pl_b22 ?_; (case pF_b22 => k_asm); (case pN_b22 => k_asm); (case pm_b22 => k_extra "my mem"); (case pc_b22 => k_extra "my cut1"); (case pl_b22 => (have hpl7 := hP7.length); (k_extra "my clean"; omega))); intro h1 k1' F1 N1)
  k_with "binaryOp Add ref ref" => (k_here; k_dflt (refine' add_atoms ?gF_b23 ?gN_b23 ?gt_b23 ?gb_b23 ?gs_b23 hits7 ?gc_b23 ?_; (case gF_b23 => k_asm); (case gN_b23 => k_asm); (case gt_b23 => k_extra "my mem"); (case gb_b23 => exact hq5); (case gs_b23 => k_extra "my sub"); (case gc_b23 => omega)); intro r0 tl0 zs0 k0' h0' F0 N0 ho0 hm0 hz0; (try simp only [List.forall_mem_cons, List.forall_mem_append] at ho0); (try simp only [List.nil_append, List.cons_append] at N0))
  k_with "TurnEnd" => (k_extra "my split"; k_dflt first
    | (refine' atom_turn ?atz1_b25 ?atz2_b25 ?atz3_b25 ?atz4_b25 ?atz5_b25 ?atz6_b25 ?atz7_b25 ?atz8_b25 ?atz9_b25 ?atza_b25 ent5 ?atzb_b25 ?atzc_b25; (case atz1_b25 => k_asm); (case atz2_b25 => (intro z z1 z2; repeat (first | exact rfl | (refine ov ?_ ?_; (focus with_reducible assumption))))); (case atz3_b25 => k_asm); (case atz4_b25 => k_extra "my mem"); (case atz5_b25 => k_extra "my mem"); (case atz6_b25 => k_extra "my ne"); (case atz7_b25 => k_extra "my cut1"); (case atz8_b25 => k_extra "my cut1"); (case atz9_b25 => k_extra "my ends"); (case atza_b25 => k_extra "my above"); (case atzb_b25 => k_extra "my sub"); (case atzc_b25 => (refine' .mk ?atzd_b25 ?atze_b25 hz0 ?atzf_b25; (case atzd_b25 => k_extra "my mem"); (case atze_b25 => exact Sub.mem (by k_extra "my sub") hm0); (case atzf_b25 => refine' eval_env hke5 ?atzg_b25 (hl9 _ he7) ?atzh_b25 hd2 ?ei_b25 hy3 ?ej_b25 ?ek_b25; (case atzg_b25 => k_extra "my sub"); (case atzh_b25 => omega); (case ei_b25 => k_extra "my mem"); (case ej_b25 => k_extra "my mem"); (case ek_b25 => k_extra "my mem")))))
    | (refine' eps_turn ?epz1_b26 ?epz2_b26 ?epz3_b26 ?epz4_b26 ?epz5_b26 ?epz6_b26 ?epz7_b26 ?epz8_b26 ?epz9_b26 ?epza_b26 ?epzb_b26 ?epzc_b26 ?epzd_b26 ?epze_b26 ent7 ?epzf_b26 ?epzg_b26 ?epzh_b26; (case epz1_b26 => k_asm); (case epz2_b26 => (intro z z1 z2 z3 z4 z5; repeat (first | exact rfl | (refine ov ?_ ?_; (focus with_reducible assumption))))); (case epz3_b26 => k_asm); (case epz4_b26 => k_extra "my mem"); (case epz5_b26 => k_extra "my mem"); (case epz6_b26 => k_extra "my mem"); (case epz7_b26 => k_extra "my ne"); (case epz8_b26 => k_extra "my ne"); (case epz9_b26 => k_extra "my cut1"); (case epza_b26 => k_extra "my cut1"); (case epzb_b26 => k_extra "my cut1"); (case epzc_b26 => k_extra "my ends"); (case epzd_b26 => k_extra "my above"); (case epze_b26 => k_extra "my above"); (case epzf_b26 => exact hP4.mono (by k_extra "my sub")); (case epzg_b26 => (k_extra "my clean"; omega)); (case epzh_b26 => (k_extra "my clean"; omega)))
    | (refine' dec_turn ?dez1_b27 ?dez2_b27 ?dez3_b27 ?dez4_b27 ?dez5_b27 ?dez6_b27 ?dez7_b27 ?dez8_b27 ?dez9_b27 ?deza_b27 ?dezb_b27 ?dezc_b27 ?dezd_b27 ?deze_b27 ?dezf_b27 ?dezg_b27; (case dez1_b27 => k_asm); (case dez2_b27 => rfl); (case dez3_b27 => (intro z z0 z1 z2 z3 z4 z5 z6 z7 z8; repeat (first | exact rfl | (refine ov ?_ ?_; (focus with_reducible assumption))))); (case dez4_b27 => k_asm); (case dez5_b27 => k_extra "my mem"); (case dez6_b27 => k_extra "my mem"); (case dez7_b27 => k_extra "my ne"); (case dez8_b27 => k_extra "my cut1"); (case dez9_b27 => k_extra "my cut1"); (case deza_b27 => k_extra "my ends"); (case dezb_b27 => k_extra "my above"); (case dezc_b27 => exact Sub.mem nr9 hdm); (case dezd_b27 => k_extra "my mem"); (case deze_b27 => exact hP6.mono (by k_extra "my sub")); (case dezf_b27 => assumption); (case dezg_b27 => assumption)))
  k_with "call ref" => (refine wpAny_call ?_; k_dflt k_extra "my enter")
  refine wpAny_call ?_
  k_dflt ktr_enter
  k_extra "my steps"
  all_goals (
    k_extra "my split"
    k_dflt (refine' ret_E hret ?xF ?xN ?xM ?xE ?xA w80 w81 ?xR)
    (case xF => k_asm)
    (case xN => k_asm)
    (case xM => k_extra "my mem")
    (case xE => k_extra "my ends")
    (case xA => k_extra "my above")
    (case xR => (refine' ⟨f8, vs8, kf8, rfl, ?xm, ?xP⟩; (case xm => exact Sub.mem (by k_extra "my sub") hf8); (case xP => exact hP8.mono (by k_extra "my sub")))))
end Mine
namespace Mine
theorem init_ok (w : World) (mean : ExcName → Option Value) (mg mb : Str → Option Value) :
  ∀ (dp un : Nat) (gd : Option (List Code)) (cn : Str) (cs : Scope) (a : Addr) (ccd : Value) (cl : List (Str × Addr)) (outer : List Env) (A₀ : Around) (base h₀ : Heap) (L : Addr) (m : Str → Option Value) (news : Led) (s : Shared) (i : Addr) (t : Tok)
    (Q E : Value → Shared → Prop),
    Below A₀ base outer h₀ → Fr h₀ L s.heap m → (heap w.params).In h₀ → News h₀ L s.heap news → Top PV LS mean mg mb h₀ → cs.kind = .function → dp + 10 < recursionLimit → un + 80 < cLine →
    (∀ x dx h' tk' k1 k2 k3 t' tw, Fr h₀ L h' m → News h₀ L h' ((x, instObj 210 dx) :: (dx, jd w k1 k2 k3 t' i 0 tw) :: news) → (∀ p ∈ news, p.1 < dx) → @LT.lt Nat _ dx x → Q (.ref x) { s with heap := h', toks := tk' }) →
    wpAny (model PySem.Challenge.rw_rr0087_01.row.prog w) (ktrTop dp un gd cn cs L a ccd cl outer) (call (.ref 210) [.int 2 t, .ref i]) Q E s := by
  k_fill
  intro dp un gd cn cs a ccd cl outer A₀ base h₀ L m news s i t Q E B F X N T hk hd hu hret
  k_with_none
  k_with "my enter" => first
    | (refine' code_def ?k1_en0 ?k2_en0 ?k3_en0 ?k4_en0 ?k5_en0 ?kA_en0 ?kF_en0 ?kK_en0 ?k6_en0 ?k7_en0 ?k8_en0 ?k9_en0 ?kB_en0 ?_ ?c2_en0 ?c3_en0 ?c4_en0 ?c5_en0; (case kA_en0 => exact rfl); (case kF_en0 => exact rfl); (case kK_en0 => first | exact rfl | assumption); (case k1_en0 => k_asm); (case k2_en0 => k_asm); (case k3_en0 => k_asm); (case k4_en0 => k_asm); (case k5_en0 => k_asm); (case k6_en0 => k_is); (case k7_en0 => k_is); (case k8_en0 => ktr_room); (case k9_en0 => exact BindsTo.of_eq rfl); (case c5_en0 => decide); (case kB_en0 => exact locs rfl); (case c2_en0 => exact rfl); (case c3_en0 => exact rfl); (case c4_en0 => exact rfl); k_whole; intro g' L' h' FG' F' N' B' X' T'; (try dsimp only); (try k_fold))
    | (refine' code_defC ?k1_en1 ?k2_en1 ?k3_en1 ?k4_en1 ?k5_en1 ?kA_en1 ?kF_en1 ?kK_en1 ?k6_en1 ?k7_en1 ?k8_en1 ?k9_en1 ?kB_en1 ?kD_en1 ?_ ?c2_en1 ?c3_en1 ?c4_en1; (case kA_en1 => exact rfl); (case kF_en1 => exact rfl); (case kK_en1 => first | exact rfl | assumption); (case k1_en1 => k_asm); (case k2_en1 => k_asm); (case k3_en1 => k_asm); (case k4_en1 => k_asm); (case k5_en1 => k_asm); (case k6_en1 => k_is); (case k7_en1 => k_is); (case k8_en1 => ktr_room); (case k9_en1 => exact BindsTo.of_eq rfl); (case kB_en1 => exact rfl); (case kD_en1 => decide +kernel); (case c2_en1 => exact rfl); (case c3_en1 => exact rfl); (case c4_en1 => exact rfl); k_whole; intro g' L' h' tk' cells' FG' F' N' Y' B' X' T' l1; (try k_lt l1); (first | (refine cells1 Y' N' ?_; clear Y' N' cells'; intro o1' N' d1') | (refine cells2 Y' N' ?_; clear Y' N' cells'; intro o1' o2' N' d1' d2') | (refine cells3 Y' N' ?_; clear Y' N' cells'; intro o1' o2' o3' N' d1' d2' d3') | (refine cells4 Y' N' ?_; clear Y' N' cells'; intro o1' o2' o3' o4' N' d1' d2' d3' d4')); (repeat ((with_reducible rename (Obj.data _ = Data.cell (bindC _ _ _ _)) => hcl1); (first | (have hcl2 : Obj.data _ = Data.cell (some _) := hcl1) | (have hcl2 : Obj.data _ = Data.cell none := hcl1)); clear hcl1)); (try dsimp only); (try k_fold))
  k_with "my mem" => first
    | (with_reducible assumption)
    | (with_reducible exact List.mem_cons_self)
    | ((with_reducible refine mem_head ?_); exact rfl)
    | ((with_reducible refine List.mem_cons_of_mem _ ?_); k_extra "my mem")
    | ((with_reducible apply Sub.mem); (with_reducible assumption); (with_reducible assumption))
    | ((with_reducible refine List.mem_append.mpr (Or.inl ?_)); k_extra "my mem")
    | ((with_reducible refine List.mem_append.mpr (Or.inr ?_)); k_extra "my mem")
  k_with "my clean" => (repeat ((with_reducible rename (@Ne Nat _ _) => hNe); clear hNe))
  k_with "my split" => (repeat ((with_reducible rename (_ ∧ _) => hAnd); first | ((with_reducible refine (fun hAnd1 hAnd2 hAnd3 hAnd4 hAnd5 hAnd6 hAnd7 hAnd8 hAnd9 hAnd10 hAnd11 hAndR => ?_) (hAnd.1) (hAnd.2.1) (hAnd.2.2.1) (hAnd.2.2.2.1) (hAnd.2.2.2.2.1) (hAnd.2.2.2.2.2.1) (hAnd.2.2.2.2.2.2.1) (hAnd.2.2.2.2.2.2.2.1) (hAnd.2.2.2.2.2.2.2.2.1) (hAnd.2.2.2.2.2.2.2.2.2.1) (hAnd.2.2.2.2.2.2.2.2.2.2.1) (hAnd.2.2.2.2.2.2.2.2.2.2.2)); clear hAnd) | ((with_reducible refine (fun hAnd1 hAnd2 hAnd3 hAnd4 hAnd5 hAnd6 hAnd7 hAndR => ?_) (hAnd.1) (hAnd.2.1) (hAnd.2.2.1) (hAnd.2.2.2.1) (hAnd.2.2.2.2.1) (hAnd.2.2.2.2.2.1) (hAnd.2.2.2.2.2.2.1) (hAnd.2.2.2.2.2.2.2)); clear hAnd) | ((with_reducible refine (fun hAnd1 hAnd2 hAnd3 hAnd4 hAndR => ?_) (hAnd.1) (hAnd.2.1) (hAnd.2.2.1) (hAnd.2.2.2.1) (hAnd.2.2.2.2)); clear hAnd) | ((with_reducible refine (fun hAnd1 hAnd2 hAndR => ?_) (hAnd.1) (hAnd.2.1) (hAnd.2.2)); clear hAnd) | (have hAnd1 := And.left hAnd; have hAnd2 := And.right hAnd; clear hAnd)))
  k_with "my sub" => first
    | (with_reducible exact Sub.refl)
    | (with_reducible assumption)
    | (with_reducible exact Sub.nil)
    | (with_reducible refine Sub.app ?_ ?_ <;> k_extra "my sub")
    | ((with_reducible refine Sub.one ?_ ?_); k_extra "my mem"; k_extra "my sub")
    | ((with_reducible refine Sub.cons ?_); k_extra "my sub")
    | ((with_reducible refine Sub.left ?_); k_extra "my sub")
    | ((with_reducible refine Sub.right ?_); k_extra "my sub")
  k_with "my lt" => first
    | (with_reducible assumption)
    | ((with_reducible refine allLt_of ?_); with_reducible assumption)
    | ((with_reducible apply allLt_app); with_reducible assumption)
    | ((with_reducible apply allLt_app); with_reducible apply allLt_app; with_reducible assumption)
    | ((with_reducible apply allLt_app); with_reducible apply allLt_app; with_reducible apply allLt_app; with_reducible assumption)
    | ((with_reducible apply allLt_app); with_reducible apply allLt_app; with_reducible apply allLt_app; with_reducible apply allLt_app; with_reducible assumption)
    | ((with_reducible apply allLt_app); with_reducible apply allLt_app; with_reducible apply allLt_app; with_reducible apply allLt_app; with_reducible apply allLt_app; with_reducible assumption)
    | ((with_reducible apply allLt_app); with_reducible apply allLt_app; with_reducible apply allLt_app; with_reducible apply allLt_app; with_reducible apply allLt_app; with_reducible apply allLt_app; with_reducible assumption)
    | ((with_reducible apply allLt_app); with_reducible apply allLt_app; with_reducible apply allLt_app; with_reducible apply allLt_app; with_reducible apply allLt_app; with_reducible apply allLt_app; with_reducible apply allLt_app; with_reducible assumption)
  k_with "my ends" => first
    | (with_reducible exact Ends.base)
    | ((with_reducible apply Ends.app); with_reducible assumption)
    | ((with_reducible apply Ends.appR); (focus k_extra "my ends"); with_reducible assumption)
    | ((with_reducible apply Ends.cons); (focus k_extra "my lt"); k_extra "my ends")
    | ((with_reducible apply Ends.skip); k_extra "my ends")
  k_with "my ne" => first
    | (with_reducible assumption)
    | ((with_reducible refine Nat.ne_of_gt ?_); with_reducible assumption)
    | ((with_reducible refine Nat.ne_of_lt ?_); with_reducible assumption)
    | ((with_reducible refine Ne.symm ?_); with_reducible assumption)
    | ((with_reducible refine ne_up1 ?_); with_reducible assumption)
    | ((with_reducible refine ne_up2 ?_); with_reducible assumption)
    | ((with_reducible refine ne_up3 ?_); with_reducible assumption)
  k_with "my kne" => ((refine neN ?_); (try dsimp only); first
    | (k_extra "my ne")
    | exact Nat.ne_of_lt (Nat.lt_succ_self _)
    | exact Nat.ne_of_gt (Nat.lt_succ_self _)
    | exact Nat.ne_of_lt (Nat.lt_succ_of_lt (Nat.lt_succ_self _))
    | exact Nat.ne_of_gt (Nat.lt_succ_of_lt (Nat.lt_succ_self _))
    | ((refine Nat.ne_of_gt (Nat.lt_of_succ_lt ?_)); with_reducible assumption)
    | ((refine Nat.ne_of_gt (Nat.lt_of_succ_lt (Nat.lt_of_succ_lt ?_))); with_reducible assumption))
  k_with "my off" => first
    | (with_reducible assumption)
    | (with_reducible refine off3_lt ?_ ?_ ?_ <;> with_reducible assumption)
    | (with_reducible refine off3_app ?_ ?_ <;> k_extra "my off")
  k_with "my cut" => first
    | ((with_reducible apply Cut.skipI); k_extra "my cut")
    | ((with_reducible apply Cut.skipC); k_extra "my cut")
    | ((with_reducible apply Cut.skipD); k_extra "my cut")
    | ((with_reducible apply Cut.cons); (focus k_extra "my ne"); (focus k_extra "my ne"); (focus k_extra "my ne"); k_extra "my cut")
    | ((with_reducible apply Cut.base); k_extra "my off")
    | ((with_reducible apply Cut.skip); k_extra "my cut")
  k_with "my off1" => first
    | (with_reducible assumption)
    | ((with_reducible refine off1_lt ?_); with_reducible assumption)
    | (with_reducible refine off1_app ?_ ?_ <;> k_extra "my off1")
  k_with "my rel" => first
    | (with_reducible assumption)
    | ((with_reducible apply FIn.mono); (with_reducible assumption); k_extra "my sub")
    | ((with_reducible apply RelIn.mono); (with_reducible assumption); k_extra "my sub")
    | ((with_reducible apply VarIn.mono); (with_reducible assumption); k_extra "my sub")
    | ((with_reducible apply DecsIn.mono); (with_reducible assumption); k_extra "my sub")
    | ((with_reducible apply RelIn.mk); (focus k_extra "my mem"); (refine And.intro ?_ ?_ <;> with_reducible assumption))
    | ((with_reducible apply VarIn.mk); k_extra "my mem")
    | (with_reducible exact DecsIn.nil)
    | ((with_reducible apply DecsIn.cons); (focus ((with_reducible apply DecIn.at); (focus k_extra "my mem"); (focus (k_extra "my clean"; omega)); k_extra "my rel")); k_extra "my rel")
  k_with "my less" => first
    | exact Nat.lt_succ_self _
    | exact Nat.lt_succ_of_le (Nat.le_max_left _ _)
    | exact Nat.lt_succ_of_le (Nat.le_max_right _ _)
  k_with "my fin" => first
    | (k_extra "my rel")
    | ((with_reducible apply FIn.tf); k_extra "my mem")
    | ((with_reducible apply FIn.not); (focus k_extra "my mem"); k_extra "my fin")
    | ((with_reducible apply FIn.con0); (focus k_extra "my mem"); k_extra "my mem")
    | ((with_reducible apply FIn.con1); (focus k_extra "my mem"); (focus k_extra "my mem"); k_extra "my fin")
    | ((with_reducible apply FIn.con2); (focus k_extra "my mem"); (focus k_extra "my mem"); (focus k_extra "my fin"); k_extra "my fin")
    | ((with_reducible apply FIn.imp); (focus k_extra "my mem"); (focus k_extra "my fin"); k_extra "my fin")
    | ((with_reducible apply FIn.iff); (focus k_extra "my mem"); (focus k_extra "my fin"); k_extra "my fin")
    | ((with_reducible apply FIn.qu); (focus k_extra "my mem"); (focus k_extra "my mem"); (focus k_extra "my rel"); k_extra "my fin")
    | ((with_reducible apply FIn.some); (focus k_extra "my mem"); k_extra "my rel")
    | ((with_reducible apply FIn.inn); (focus k_extra "my mem"); (focus k_extra "my rel"); k_extra "my rel")
  k_with "my skip" => first
    | ((with_reducible apply skip_cons); (focus k_extra "my tst"); k_extra "my skip")
    | (with_reducible exact skip_nil)
  k_with "my walk" => (repeat' ((fail_if_success (with_reducible show LeaveK h₀ _ _ _ _ _ _)); first | ((fail_if_success (fail_if_success (with_reducible show wpAny _ _ (eval _ (compEnvC _ _ _ _)) (LCg.CompEnd _ _ _ _ _ _ _ _ _ _ _ _) _ _))); k_fold) | (k_unfold; (try dsimp only)) | walk1 | (dsimp only; walk1)))
  k_with "my steps" => (repeat' (first | ((fail_if_success (fail_if_success (with_reducible show wpAny _ _ (eval _ (compEnvC _ _ _ _)) (LCg.CompEnd _ _ _ _ _ _ _ _ _ _ _ _) _ _))); k_fold) | (k_unfold; (try dsimp only)) | walk1 | (dsimp only; walk1)))
  k_with "my bool" => first
    | ((with_reducible apply sel_one); (focus kernel_rfl!); kernel_rfl!)
    | ((with_reducible apply sel_two); (focus kernel_rfl!); kernel_rfl!)
    | ((with_reducible apply sel_no); (focus kernel_rfl!); kernel_rfl!)
    | ((with_reducible apply sel_in); (focus kernel_rfl!); kernel_rfl!)
    | kernel_rfl!
    | exact rfl
  k_with "my val" => first
    | ((with_reducible show Val _ _ _ _ _ _ _ _ (PySem.Expr.Name _ _) _); first
      | ((with_reducible apply val_local); (focus exact rfl); (focus exact rfl); (focus exact rfl); (focus exact rfl); decide)
      | ((with_reducible apply val_cell); (focus exact rfl); (focus exact rfl); (focus k_extra "my mem"); (focus k_asm); (focus exact rfl); (focus exact rfl); decide))
    | ((with_reducible show Val _ _ _ _ _ _ _ _ (PySem.Expr.Subscript _ _ _) _); (with_reducible apply val_item); (focus k_extra "my val"); (focus k_extra "my mem"); (focus (refine And.intro ?_ ?_; decide; exact rfl)); exact rfl)
    | ((with_reducible show Val _ _ _ _ _ _ _ _ (PySem.Expr.Subscript _ (PySem.Expr.Constant (PySem.Const.int 0) _ _) _) _); (with_reducible apply val_head); (focus k_extra "my val"); (focus with_reducible assumption); k_extra "my mem")
    | ((with_reducible show Val _ _ _ _ _ _ _ _ (PySem.Expr.Compare _ [PySem.CmpOp.Eq] _ _) _); (with_reducible apply val_eq); (focus k_extra "my val"); k_extra "my bool")
    | ((with_reducible show ValH _ _ _ _ _ _ _ _ (PySem.Expr.Compare _ [PySem.CmpOp.In] _ _) _); (with_reducible apply val_in); (focus k_extra "my val"); (focus exact rfl); (focus exact Nat.le_of_ble_eq_true rfl); k_extra "my bool")
  k_with "my tst" => first
    | ((with_reducible show Tst _ _ _ _ _ _ _ _ (PySem.Expr.Compare _ [PySem.CmpOp.In] _ _) _); (with_reducible apply tst_in); (focus k_extra "my val"); (focus exact rfl); (focus exact Nat.le_of_ble_eq_true rfl); k_extra "my bool")
    | ((with_reducible show Tst _ _ _ _ _ _ _ _ (PySem.Expr.Compare _ [PySem.CmpOp.Eq] [PySem.Expr.Constant _ _ _] _) _); (with_reducible apply tst_eq); (focus k_extra "my val"); k_extra "my bool")
    | ((with_reducible show Tst _ _ _ _ _ _ _ _ (PySem.Expr.Compare _ [PySem.CmpOp.NotEq] [PySem.Expr.Constant _ _ _] _) _); first
      | ((with_reducible apply tst_ne_f); (focus k_extra "my val"); k_extra "my bool")
      | ((with_reducible apply tst_ne_t); (focus k_extra "my val"); k_extra "my bool"))
    | ((with_reducible show Tst _ _ _ _ _ _ _ _ (PySem.Expr.Compare _ [PySem.CmpOp.Eq] [PySem.Expr.Name _ _] _) _); (with_reducible apply tst_eqb); (focus k_extra "my val"); (focus k_extra "my val"); exact rfl)
    | ((with_reducible show Tst _ _ _ _ _ _ _ _ (PySem.Expr.BoolOp _ _ _) _); first
      | ((with_reducible apply tst_or_no); (focus k_extra "my tst"); k_extra "my tst")
      | ((with_reducible apply tst_or_yes); k_extra "my tst"))
    | ((with_reducible show Tst _ _ _ _ _ _ _ _ (PySem.Expr.Name _ _) _); (with_reducible apply tst_val); (focus k_extra "my val"); intro _; rfl)
  k_with "execs cons If" => (k_here; k_dflt ((rename Fr _ _ _ _ => kF); (rename News _ _ _ _ => kN); first
    | (apply skip_use kF kN; (focus ((with_reducible apply skip_cons); (focus k_extra "my tst"); k_extra "my skip")); intro h' tk' F' N'; k_sweep)
    | ((with_reducible show wpAny _ _ (execs (PySem.Stmt.If _ [PySem.Stmt.Return (some _) _] _ _ :: _) _) _ _ _); refine s_yes kF kN ?_ ?_; (focus k_extra "my tst"); intro h' tk' F' N'; k_sweep)
    | (refine s_yes2 kF kN ?_ ?_; (focus k_extra "my tst"); intro h' tk' F' N'; k_sweep)))
  k_with "execs cons Return" => (k_here; with_reducible refine s_ret ?_)
  k_with "execs cons Assign" => (k_here; (with_reducible show wpAny _ _ (execs (PySem.Stmt.Assign [PySem.Expr.Name _ _] (PySem.Expr.Subscript _ (PySem.Expr.Constant _ _ _) _) _ :: _) _) _ _ _); k_dflt ((with_reducible apply s_let); (focus exact rfl); (focus k_asm); (focus k_asm); (focus k_extra "my val"); (focus exact rfl); (focus exact rfl); (focus exact rfl); intro h' tk' F' N'; k_sweep))
  k_with "ite" => first
    | (k_dflt (refine ite_pos ?_ ?_; (focus decide)))
    | (k_dflt (refine ite_neg ?_ ?_; (focus decide)))
    | (with_reducible refine ite_dec ?_ ?_ <;> intro _)
  k_with "eval Subscript" => (k_here; (with_reducible show wpAny _ _ (eval (PySem.Expr.Subscript _ (PySem.Expr.Constant _ _ _) _) _) _ _ _); k_dflt ((rename Fr _ _ _ _ => kF); (rename News _ _ _ _ => kN); apply e_val kF kN; (focus k_extra "my val"); intro tk'))
  k_with "eval Compare" => (k_here; k_dflt ((rename Fr _ _ _ _ => kF); (rename News _ _ _ _ => kN); first
    | ((with_reducible show wpAny _ _ (eval (PySem.Expr.Compare _ [PySem.CmpOp.In] _ _) _) _ _ _); apply e_valH kF kN; (focus k_extra "my val"); intro h' tk' F' N'; k_sweep)
    | (apply e_val kF kN; (focus k_extra "my val"); intro tk')))
  k_with "eval IfExp" => (k_here; k_dflt ((rename Fr _ _ _ _ => kF); (rename News _ _ _ _ => kN); first
    | ((with_reducible show wpAny _ _ (eval (PySem.Expr.IfExp _ (PySem.Expr.Constant (PySem.Const.str _) _ _) (PySem.Expr.Constant (PySem.Const.str _) _ _) _) _) _ _ _); apply e_sel kF kN; (focus k_extra "my tst"); intro h' tk' t' F' N'; k_sweep)
    | (refine e_no kF kN ?_ ?_; (focus k_extra "my tst"); intro h' tk' F' N'; k_sweep)
    | (refine e_yes kF kN ?_ ?_; (focus k_extra "my tst"); intro h' tk' F' N'; k_sweep)
    | (refine' e_if kF kN ?_ ?_ ?_; rotate_left; (focus k_extra "my tst"); (intro hc h' tk' F' N'; k_sweep); rotate_left; (intro hc h' tk' F' N'; k_sweep))))
  k_with "my val" => first
    | ((with_reducible show Val _ _ _ _ _ _ _ (compEnvC _ _ _ _) (PySem.Expr.Name _ _) _); first
      | ((with_reducible apply val_own); (focus k_extra "my mem"); (focus with_reducible assumption); (focus with_reducible assumption); (focus exact rfl); (focus exact rfl); decide)
      | ((with_reducible apply val_free); (focus exact rfl); (focus k_extra "my mem"); (focus k_asm); (focus exact rfl); (focus exact rfl); decide))
    | ((with_reducible show Val _ _ _ _ _ _ _ _ (PySem.Expr.UnaryOp _ _ _) _); (with_reducible apply val_not); k_extra "my val")
    | (with_reducible exact val_bool)
  k_with "my fn" => first
    | ((with_reducible show Val _ _ _ _ _ _ _ (compEnvC _ _ _ _) _ _); (with_reducible apply val_globC); (focus k_asm); (focus k_asm); (focus k_is); (focus exact rfl); (focus exact rfl); (focus exact rfl); decide)
    | ((with_reducible apply val_glob); (focus exact rfl); (focus k_asm); (focus k_asm); (focus k_is); (focus exact rfl); (focus exact rfl); decide)
  k_with "my arg" => first
    | (with_reducible exact arg_int)
    | (with_reducible exact arg_str)
    | ((with_reducible show Arg _ _ _ _ _ _ _ _ (PySem.Expr.BinOp _ _ _ _) _); (with_reducible apply arg_sub); k_extra "my val")
    | ((with_reducible apply arg_val); k_extra "my val")
  k_with "eval Call" => (k_here; k_dflt ((rename Fr _ _ _ _ => kF); (rename News _ _ _ _ => kN); first
    | ((with_reducible show wpAny _ _ (eval (PySem.Expr.Call (PySem.Expr.Name _ _) [_] [] _) _) _ _ _); apply e_call1 kF kN; (focus k_asm); (focus k_extra "my fn"); (focus k_is); (focus k_extra "my arg"); (focus exact rfl); (focus exact rfl); intro tk' t')
    | ((with_reducible show wpAny _ _ (eval (PySem.Expr.Call (PySem.Expr.Name _ _) [_, _] [] _) _) _ _ _); apply e_call2 kF kN; (focus k_asm); (focus k_extra "my fn"); (focus k_is); (focus k_extra "my arg"); (focus k_extra "my arg"); (focus exact rfl); (focus exact rfl); (focus exact rfl); (focus exact rfl); intro tk' t' u')
    | ((with_reducible show wpAny _ _ (eval (PySem.Expr.Call (PySem.Expr.Name _ _) [_, _, _] [] _) _) _ _ _); apply e_call3 kF kN; (focus k_asm); (focus k_extra "my fn"); (focus k_is); (focus k_extra "my arg"); (focus k_extra "my arg"); (focus k_extra "my arg"); (focus exact rfl); (focus exact rfl); (focus exact rfl); (focus exact rfl); (focus exact rfl); intro tk' t' u' v')))
  k_with "CompEnd" => (k_extra "my split"; k_dflt ((with_reducible apply comp_end); (focus k_asm); (focus k_asm); (focus k_extra "my mem"); (focus k_extra "my mem"); (focus k_extra "my mem"); (focus k_extra "my cut"); (focus (first | exact trivial | ((with_reducible apply src_at); k_extra "my mem") | k_extra "my mem"))))
  k_with "TupSrc" => (k_here; k_dflt ((with_reducible apply TupSrc.ledger); (focus exact rfl); (focus k_asm); (focus k_asm); (focus k_extra "my mem"); (focus (first | exact Nat.le_of_ble_eq_true rfl | size_fits)); intro g'; lcg_lit))
  k_with "subscriptTail" => (k_here; (with_reducible show wpAny _ _ (subscriptTail _ _ (Value.ref _) (Value.int _ _)) _ _ _); k_dflt ((with_reducible apply item_tupleT); (focus ((with_reducible apply News.isTup); (focus k_asm); k_extra "my mem")); (focus decide); (focus decide); (focus exact rfl); (focus exact rfl); k_whole))
  k_with "my cut1" => first
    | ((with_reducible apply Cut1.skip); k_extra "my cut1")
    | ((with_reducible apply Cut1.cons); (focus k_extra "my ne"); k_extra "my cut1")
    | ((with_reducible apply Cut1.base); k_extra "my off1")
  k_with "my above" => first
    | (with_reducible assumption)
    | (with_reducible exact above_nil)
    | ((with_reducible refine above_cons ?_ ?_); (focus with_reducible assumption); k_extra "my above")
    | ((with_reducible refine above_app ?_ ?_) <;> k_extra "my above")
  k_with "my ord" => first
    | (with_reducible assumption)
    | ((with_reducible refine ordU ?_ ?_) <;> k_extra "my ord")
  k_with "my lt" => ((with_reducible apply allLt_cons); (focus with_reducible assumption); k_extra "my lt")
  k_with "my ends" => first
    | (with_reducible exact Ends.base)
    | ((with_reducible apply Ends.app); k_extra "my ord")
    | ((with_reducible apply Ends.appR); (focus k_extra "my ends"); k_extra "my ord")
    | ((with_reducible apply Ends.cons); (focus k_extra "my lt"); k_extra "my ends")
    | ((with_reducible apply Ends.skip); k_extra "my ends")
  k_with "my ends" => ((with_reducible apply Ends.two); (focus k_extra "my ends"); k_extra "my above")
  k_with "my off1" => first
    | (with_reducible assumption)
    | ((with_reducible refine off1_lt ?_); with_reducible assumption)
    | ((with_reducible refine off1_all ?_); k_extra "my lt")
    | ((with_reducible refine off1_up ?_ (Nat.le_add_right _ 1)); k_extra "my lt")
    | ((with_reducible refine off1_up ?_ (Nat.le_succ_of_le (Nat.le_add_right _ 1))); k_extra "my lt")
    | ((with_reducible refine off1_up ?_ (Nat.le_succ_of_le (Nat.le_succ_of_le (Nat.le_add_right _ 1)))); k_extra "my lt")
    | ((with_reducible refine off1_app ?_ ?_) <;> k_extra "my off1")
  k_with "storeName" => (k_here; k_dflt (refine' store_cell ?F_r1 ?N_r1 ?c_r1 ?m_r1 ?k_r1 ?d_r1 ?_ ?a_r1 ?b_r1; (case a_r1 => rfl); (case b_r1 => rfl); (case c_r1 => rfl); (case F_r1 => k_asm); (case N_r1 => k_asm); (case m_r1 => k_extra "my mem"); (case k_r1 => k_extra "my cut1"); (case d_r1 => with_reducible assumption); k_whole); intro h' o' F' N' d'; (try dsimp only at N'); (try k_sweep))
  k_with "eval Dict cons cons" => (k_here; k_dflt (first
    | (refine' star_pair (knd := PySem.strKind _ _) ?F_r2 ?N_r2 ?sys_r2 ?_; (case F_r2 => k_asm); (case N_r2 => k_asm); (case sys_r2 => refine' sys_low ?T_r2 ?F_r2; (case T_r2 => k_asm); (case F_r2 => k_asm)))
    | (refine' star_two (knd := PySem.strKind _ _) ?F_r3 ?N_r3 ?sys_r3 ?_; (case F_r3 => k_asm); (case N_r3 => k_asm); (case sys_r3 => refine' sys_low ?T_r3 ?F_r3; (case T_r3 => k_asm); (case F_r3 => k_asm)))); intro d' h' F' N' l1 lo'; (try k_lt l1); (try k_sweep))
  k_with "Star1" => (k_extra "my split"; k_dflt (refine' star1 ?F_r4 ?N_r4 ?d_r4 ?e_r4 ?k_r4 ?m_r4 ?y_r4 ?l_r4 ?_; (case F_r4 => k_asm); (case N_r4 => k_asm); (case e_r4 => k_extra "my mem"); (case k_r4 => k_extra "my cut1"); (case m_r4 => refine' Sub.mem ?sm_r4 ?sn_r4; (case sn_r4 => with_reducible assumption); (case sm_r4 => k_extra "my sub")); (case y_r4 => with_reducible assumption); (case d_r4 => with_reducible assumption); (case l_r4 => with_reducible assumption)); intro o' sub' h' tk' d' F' N' off' l1 lt'; (try k_lt l1); (try k_sweep))
  k_with "Star2" => (k_extra "my split"; k_dflt (refine' star2 ?hk_r5 ?F_r5 ?N_r5 ?s_r5 ?e_r5 ?k_r5 ?k1_r5 ?_; (case hk_r5 => exact strKind_is _ _ _ _); (case F_r5 => k_asm); (case N_r5 => k_asm); (case s_r5 => k_extra "my mem"); (case e_r5 => k_extra "my mem"); (case k_r5 => k_extra "my cut1"); (case k1_r5 => k_extra "my cut1")); intro o' h' tk' d' F' N' off')
  k_with "TurnRest" => k_dflt (first
    | (refine TurnRest.cons ?_; intro it' h' tk' F' N' off'; (try simp only [LCg.Off1] at off'); (try simp only [List.cons_append, List.nil_append] at N'))
    | (refine TurnRest.nil ?_; intro h' tk' F' N'; (try simp only [List.cons_append, List.nil_append] at N')))
  k_with "TurnPost" => (dsimp only [TurnPost])
  k_with "TurnEnd" => (k_extra "my split"; k_dflt (refine' turn_end ?F_r6 ?N_r6 ?i_r6 ?k_r6 ?e_r6 ?_; (case F_r6 => k_asm); (case N_r6 => k_asm); (case i_r6 => k_extra "my mem"); (case k_r6 => k_extra "my cut1"); (case e_r6 => k_extra "my mem")))

  refine' call_cls ?cF ?cX ?cN ?cm ?ci ?cf ?_
  (case cF => k_asm)
  (case cX => k_asm)
  (case cN => k_asm)
  (case cm => k_is)
  (case ci => k_is)
  (case cf => k_is)
  intro x dx h' F' N' l1 lt'
  have l9 := l1
  have lt9 := lt'
  (try k_lt l9)
  (try k_lt2 lt9)
  k_dflt ktr_enter
  k_extra "my steps"
  all_goals (
    k_extra "my split"
    k_dflt (refine' hret _ _ _ _ _ _ _ _ _ ?eF ?eN l1 lt')
    (case eF => k_asm)
    (case eN => k_asm))
end Mine
namespace Mine
inductive TRel (w : World) (news : Led) : List Value → Form × List Int → Prop where
  | mk {fv ev : Value} {F : Form} {e : List Int} : FIn news fv F → EIn w news ev e → sc F e.length → plain F = true → TRel w news [fv, ev] (F, e)
noncomputable abbrev truSize (d : Form × List Int) : Nat := d.1.size + 40
noncomputable abbrev truCost (d : Form × List Int) : Int := ways d.1
noncomputable abbrev truOut (S : Int → List Int) (_ : Led) (r : Value) (d : Form × List Int) : Prop := r = .bool (hold S d.1 d.2)
theorem capR_6 : ∀ n, capR n ≤ 6
  | 0 => by decide
  | 1 => by decide
  | _ + 2 => Int.le_refl 6
theorem truth_ok (w : World) (mean : ExcName → Option Value) (mg mb : Str → Option Value) (S : Int → List Int) (d : Form × List Int) :
    Ev w mean mg mb 193 (TRel w) truSize truCost (truOut S) S d := by
  have hOp := opened_ok w mean mg mb S
  have hW := within_ok w mean mg mb
  have hFill : heap = heap ∧ PySem.Challenge.rw_rr0087_01 = PySem.Challenge.rw_rr0087_01 := by
    k_fill
    exact ⟨rfl, rfl⟩
  clear hFill
  revert d
  refine ev_of fun d IH => ?_
  intro dp un gd cn cs a ccd cl outer A₀ base h₀ L m news nr s vs Q E x dx i k1 k2 k3 t tw wy B F X N hoff T hk hx hs hI hw0 hw1 hR hd hu hret
  cases hR
  rename_i fv ev f e hF hE hsc hpl
  have hI' := hI
  have hE' := hE
  cases hI'
  cases hE'
  have hd4 : dp + 40 < recursionLimit := Nat.lt_of_le_of_lt (Nat.add_le_add_left (Nat.le_add_left 40 f.size) dp) hd
  have hu4 : un + 8 * 40 < cLine := Nat.lt_of_le_of_lt (Nat.add_le_add_left (Nat.mul_le_mul_left 8 (Nat.le_add_left 40 f.size)) un) hu
  obtain ⟨a9, t9, r9, n9, hv9, hm9⟩ := hF.head
  k_with_none
  k_with "my enter" => first
    | (refine' code_def ?k1_en0 ?k2_en0 ?k3_en0 ?k4_en0 ?k5_en0 ?kA_en0 ?kF_en0 ?kK_en0 ?k6_en0 ?k7_en0 ?k8_en0 ?k9_en0 ?kB_en0 ?_ ?c2_en0 ?c3_en0 ?c4_en0 ?c5_en0; (case kA_en0 => exact rfl); (case kF_en0 => exact rfl); (case kK_en0 => first | exact rfl | assumption); (case k1_en0 => k_asm); (case k2_en0 => k_asm); (case k3_en0 => k_asm); (case k4_en0 => k_asm); (case k5_en0 => k_asm); (case k6_en0 => k_is); (case k7_en0 => k_is); (case k8_en0 => ktr_room); (case k9_en0 => exact BindsTo.of_eq rfl); (case c5_en0 => decide); (case kB_en0 => exact locs rfl); (case c2_en0 => exact rfl); (case c3_en0 => exact rfl); (case c4_en0 => exact rfl); k_whole; intro g' L' h' FG' F' N' B' X' T'; (try dsimp only); (try k_fold))
    | (refine' code_defC ?k1_en1 ?k2_en1 ?k3_en1 ?k4_en1 ?k5_en1 ?kA_en1 ?kF_en1 ?kK_en1 ?k6_en1 ?k7_en1 ?k8_en1 ?k9_en1 ?kB_en1 ?kD_en1 ?_ ?c2_en1 ?c3_en1 ?c4_en1; (case kA_en1 => exact rfl); (case kF_en1 => exact rfl); (case kK_en1 => first | exact rfl | assumption); (case k1_en1 => k_asm); (case k2_en1 => k_asm); (case k3_en1 => k_asm); (case k4_en1 => k_asm); (case k5_en1 => k_asm); (case k6_en1 => k_is); (case k7_en1 => k_is); (case k8_en1 => ktr_room); (case k9_en1 => exact BindsTo.of_eq rfl); (case kB_en1 => exact rfl); (case kD_en1 => decide +kernel); (case c2_en1 => exact rfl); (case c3_en1 => exact rfl); (case c4_en1 => exact rfl); k_whole; intro g' L' h' tk' cells' FG' F' N' Y' B' X' T' l1; (try k_lt l1); (first | (refine cells1 Y' N' ?_; clear Y' N' cells'; intro o1' N' d1') | (refine cells2 Y' N' ?_; clear Y' N' cells'; intro o1' o2' N' d1' d2') | (refine cells3 Y' N' ?_; clear Y' N' cells'; intro o1' o2' o3' N' d1' d2' d3') | (refine cells4 Y' N' ?_; clear Y' N' cells'; intro o1' o2' o3' o4' N' d1' d2' d3' d4')); (repeat ((with_reducible rename (Obj.data _ = Data.cell (bindC _ _ _ _)) => hcl1); (first | (have hcl2 : Obj.data _ = Data.cell (some _) := hcl1) | (have hcl2 : Obj.data _ = Data.cell none := hcl1)); clear hcl1)); (try dsimp only); (try k_fold))
  k_with "my mem" => first
    | (with_reducible assumption)
    | (with_reducible exact List.mem_cons_self)
    | ((with_reducible refine mem_head ?_); exact rfl)
    | ((with_reducible refine List.mem_cons_of_mem _ ?_); k_extra "my mem")
    | ((with_reducible apply Sub.mem); (with_reducible assumption); (with_reducible assumption))
    | ((with_reducible refine List.mem_append.mpr (Or.inl ?_)); k_extra "my mem")
    | ((with_reducible refine List.mem_append.mpr (Or.inr ?_)); k_extra "my mem")
  k_with "my clean" => (repeat ((with_reducible rename (@Ne Nat _ _) => hNe); clear hNe))
  k_with "my split" => (repeat ((with_reducible rename (_ ∧ _) => hAnd); first | ((with_reducible refine (fun hAnd1 hAnd2 hAnd3 hAnd4 hAnd5 hAnd6 hAnd7 hAnd8 hAnd9 hAnd10 hAnd11 hAndR => ?_) (hAnd.1) (hAnd.2.1) (hAnd.2.2.1) (hAnd.2.2.2.1) (hAnd.2.2.2.2.1) (hAnd.2.2.2.2.2.1) (hAnd.2.2.2.2.2.2.1) (hAnd.2.2.2.2.2.2.2.1) (hAnd.2.2.2.2.2.2.2.2.1) (hAnd.2.2.2.2.2.2.2.2.2.1) (hAnd.2.2.2.2.2.2.2.2.2.2.1) (hAnd.2.2.2.2.2.2.2.2.2.2.2)); clear hAnd) | ((with_reducible refine (fun hAnd1 hAnd2 hAnd3 hAnd4 hAnd5 hAnd6 hAnd7 hAndR => ?_) (hAnd.1) (hAnd.2.1) (hAnd.2.2.1) (hAnd.2.2.2.1) (hAnd.2.2.2.2.1) (hAnd.2.2.2.2.2.1) (hAnd.2.2.2.2.2.2.1) (hAnd.2.2.2.2.2.2.2)); clear hAnd) | ((with_reducible refine (fun hAnd1 hAnd2 hAnd3 hAnd4 hAndR => ?_) (hAnd.1) (hAnd.2.1) (hAnd.2.2.1) (hAnd.2.2.2.1) (hAnd.2.2.2.2)); clear hAnd) | ((with_reducible refine (fun hAnd1 hAnd2 hAndR => ?_) (hAnd.1) (hAnd.2.1) (hAnd.2.2)); clear hAnd) | (have hAnd1 := And.left hAnd; have hAnd2 := And.right hAnd; clear hAnd)))
  k_with "my sub" => first
    | (with_reducible exact Sub.refl)
    | (with_reducible assumption)
    | (with_reducible exact Sub.nil)
    | (with_reducible refine Sub.app ?_ ?_ <;> k_extra "my sub")
    | ((with_reducible refine Sub.one ?_ ?_); k_extra "my mem"; k_extra "my sub")
    | ((with_reducible refine Sub.cons ?_); k_extra "my sub")
    | ((with_reducible refine Sub.left ?_); k_extra "my sub")
    | ((with_reducible refine Sub.right ?_); k_extra "my sub")
  k_with "my lt" => first
    | (with_reducible assumption)
    | ((with_reducible refine allLt_of ?_); with_reducible assumption)
    | ((with_reducible apply allLt_app); with_reducible assumption)
    | ((with_reducible apply allLt_app); with_reducible apply allLt_app; with_reducible assumption)
    | ((with_reducible apply allLt_app); with_reducible apply allLt_app; with_reducible apply allLt_app; with_reducible assumption)
    | ((with_reducible apply allLt_app); with_reducible apply allLt_app; with_reducible apply allLt_app; with_reducible apply allLt_app; with_reducible assumption)
    | ((with_reducible apply allLt_app); with_reducible apply allLt_app; with_reducible apply allLt_app; with_reducible apply allLt_app; with_reducible apply allLt_app; with_reducible assumption)
    | ((with_reducible apply allLt_app); with_reducible apply allLt_app; with_reducible apply allLt_app; with_reducible apply allLt_app; with_reducible apply allLt_app; with_reducible apply allLt_app; with_reducible assumption)
    | ((with_reducible apply allLt_app); with_reducible apply allLt_app; with_reducible apply allLt_app; with_reducible apply allLt_app; with_reducible apply allLt_app; with_reducible apply allLt_app; with_reducible apply allLt_app; with_reducible assumption)
  k_with "my ends" => first
    | (with_reducible exact Ends.base)
    | ((with_reducible apply Ends.app); with_reducible assumption)
    | ((with_reducible apply Ends.appR); (focus k_extra "my ends"); with_reducible assumption)
    | ((with_reducible apply Ends.cons); (focus k_extra "my lt"); k_extra "my ends")
    | ((with_reducible apply Ends.skip); k_extra "my ends")
  k_with "my ne" => first
    | (with_reducible assumption)
    | ((with_reducible refine Nat.ne_of_gt ?_); with_reducible assumption)
    | ((with_reducible refine Nat.ne_of_lt ?_); with_reducible assumption)
    | ((with_reducible refine Ne.symm ?_); with_reducible assumption)
    | ((with_reducible refine ne_up1 ?_); with_reducible assumption)
    | ((with_reducible refine ne_up2 ?_); with_reducible assumption)
    | ((with_reducible refine ne_up3 ?_); with_reducible assumption)
  k_with "my kne" => ((refine neN ?_); (try dsimp only); first
    | (k_extra "my ne")
    | exact Nat.ne_of_lt (Nat.lt_succ_self _)
    | exact Nat.ne_of_gt (Nat.lt_succ_self _)
    | exact Nat.ne_of_lt (Nat.lt_succ_of_lt (Nat.lt_succ_self _))
    | exact Nat.ne_of_gt (Nat.lt_succ_of_lt (Nat.lt_succ_self _))
    | ((refine Nat.ne_of_gt (Nat.lt_of_succ_lt ?_)); with_reducible assumption)
    | ((refine Nat.ne_of_gt (Nat.lt_of_succ_lt (Nat.lt_of_succ_lt ?_))); with_reducible assumption))
  k_with "my off" => first
    | (with_reducible assumption)
    | (with_reducible refine off3_lt ?_ ?_ ?_ <;> with_reducible assumption)
    | (with_reducible refine off3_app ?_ ?_ <;> k_extra "my off")
  k_with "my cut" => first
    | ((with_reducible apply Cut.skipI); k_extra "my cut")
    | ((with_reducible apply Cut.skipC); k_extra "my cut")
    | ((with_reducible apply Cut.skipD); k_extra "my cut")
    | ((with_reducible apply Cut.cons); (focus k_extra "my ne"); (focus k_extra "my ne"); (focus k_extra "my ne"); k_extra "my cut")
    | ((with_reducible apply Cut.base); k_extra "my off")
    | ((with_reducible apply Cut.skip); k_extra "my cut")
  k_with "my off1" => first
    | (with_reducible assumption)
    | ((with_reducible refine off1_lt ?_); with_reducible assumption)
    | (with_reducible refine off1_app ?_ ?_ <;> k_extra "my off1")
  k_with "my rel" => first
    | (with_reducible assumption)
    | ((with_reducible apply FIn.mono); (with_reducible assumption); k_extra "my sub")
    | ((with_reducible apply RelIn.mono); (with_reducible assumption); k_extra "my sub")
    | ((with_reducible apply VarIn.mono); (with_reducible assumption); k_extra "my sub")
    | ((with_reducible apply DecsIn.mono); (with_reducible assumption); k_extra "my sub")
    | ((with_reducible apply RelIn.mk); (focus k_extra "my mem"); (refine And.intro ?_ ?_ <;> with_reducible assumption))
    | ((with_reducible apply VarIn.mk); k_extra "my mem")
    | (with_reducible exact DecsIn.nil)
    | ((with_reducible apply DecsIn.cons); (focus ((with_reducible apply DecIn.at); (focus k_extra "my mem"); (focus (k_extra "my clean"; omega)); k_extra "my rel")); k_extra "my rel")
  k_with "my less" => first
    | exact Nat.lt_succ_self _
    | exact Nat.lt_succ_of_le (Nat.le_max_left _ _)
    | exact Nat.lt_succ_of_le (Nat.le_max_right _ _)
  k_with "my fin" => first
    | (k_extra "my rel")
    | ((with_reducible apply FIn.tf); k_extra "my mem")
    | ((with_reducible apply FIn.not); (focus k_extra "my mem"); k_extra "my fin")
    | ((with_reducible apply FIn.con0); (focus k_extra "my mem"); k_extra "my mem")
    | ((with_reducible apply FIn.con1); (focus k_extra "my mem"); (focus k_extra "my mem"); k_extra "my fin")
    | ((with_reducible apply FIn.con2); (focus k_extra "my mem"); (focus k_extra "my mem"); (focus k_extra "my fin"); k_extra "my fin")
    | ((with_reducible apply FIn.imp); (focus k_extra "my mem"); (focus k_extra "my fin"); k_extra "my fin")
    | ((with_reducible apply FIn.iff); (focus k_extra "my mem"); (focus k_extra "my fin"); k_extra "my fin")
    | ((with_reducible apply FIn.qu); (focus k_extra "my mem"); (focus k_extra "my mem"); (focus k_extra "my rel"); k_extra "my fin")
    | ((with_reducible apply FIn.some); (focus k_extra "my mem"); k_extra "my rel")
    | ((with_reducible apply FIn.inn); (focus k_extra "my mem"); (focus k_extra "my rel"); k_extra "my rel")
  k_with "my skip" => first
    | ((with_reducible apply skip_cons); (focus k_extra "my tst"); k_extra "my skip")
    | (with_reducible exact skip_nil)
  k_with "my walk" => (repeat' ((fail_if_success (with_reducible show LeaveK h₀ _ _ _ _ _ _)); first | ((fail_if_success (fail_if_success (with_reducible show wpAny _ _ (eval _ (compEnvC _ _ _ _)) (LCg.CompEnd _ _ _ _ _ _ _ _ _ _ _ _) _ _))); k_fold) | (k_unfold; (try dsimp only)) | walk1 | (dsimp only; walk1)))
  k_with "my steps" => (repeat' (first | ((fail_if_success (fail_if_success (with_reducible show wpAny _ _ (eval _ (compEnvC _ _ _ _)) (LCg.CompEnd _ _ _ _ _ _ _ _ _ _ _ _) _ _))); k_fold) | (k_unfold; (try dsimp only)) | walk1 | (dsimp only; walk1)))
  k_with "my bool" => first
    | ((with_reducible apply sel_one); (focus kernel_rfl!); kernel_rfl!)
    | ((with_reducible apply sel_two); (focus kernel_rfl!); kernel_rfl!)
    | ((with_reducible apply sel_no); (focus kernel_rfl!); kernel_rfl!)
    | ((with_reducible apply sel_in); (focus kernel_rfl!); kernel_rfl!)
    | kernel_rfl!
    | exact rfl
  k_with "my val" => first
    | ((with_reducible show Val _ _ _ _ _ _ _ _ (PySem.Expr.Name _ _) _); first
      | ((with_reducible apply val_local); (focus exact rfl); (focus exact rfl); (focus exact rfl); (focus exact rfl); decide)
      | ((with_reducible apply val_cell); (focus exact rfl); (focus exact rfl); (focus k_extra "my mem"); (focus k_asm); (focus exact rfl); (focus exact rfl); decide))
    | ((with_reducible show Val _ _ _ _ _ _ _ _ (PySem.Expr.Subscript _ _ _) _); (with_reducible apply val_item); (focus k_extra "my val"); (focus k_extra "my mem"); (focus (refine And.intro ?_ ?_; decide; exact rfl)); exact rfl)
    | ((with_reducible show Val _ _ _ _ _ _ _ _ (PySem.Expr.Subscript _ (PySem.Expr.Constant (PySem.Const.int 0) _ _) _) _); (with_reducible apply val_head); (focus k_extra "my val"); (focus with_reducible assumption); k_extra "my mem")
    | ((with_reducible show Val _ _ _ _ _ _ _ _ (PySem.Expr.Compare _ [PySem.CmpOp.Eq] _ _) _); (with_reducible apply val_eq); (focus k_extra "my val"); k_extra "my bool")
    | ((with_reducible show ValH _ _ _ _ _ _ _ _ (PySem.Expr.Compare _ [PySem.CmpOp.In] _ _) _); (with_reducible apply val_in); (focus k_extra "my val"); (focus exact rfl); (focus exact Nat.le_of_ble_eq_true rfl); k_extra "my bool")
  k_with "my tst" => first
    | ((with_reducible show Tst _ _ _ _ _ _ _ _ (PySem.Expr.Compare _ [PySem.CmpOp.In] _ _) _); (with_reducible apply tst_in); (focus k_extra "my val"); (focus exact rfl); (focus exact Nat.le_of_ble_eq_true rfl); k_extra "my bool")
    | ((with_reducible show Tst _ _ _ _ _ _ _ _ (PySem.Expr.Compare _ [PySem.CmpOp.Eq] [PySem.Expr.Constant _ _ _] _) _); (with_reducible apply tst_eq); (focus k_extra "my val"); k_extra "my bool")
    | ((with_reducible show Tst _ _ _ _ _ _ _ _ (PySem.Expr.Compare _ [PySem.CmpOp.NotEq] [PySem.Expr.Constant _ _ _] _) _); first
      | ((with_reducible apply tst_ne_f); (focus k_extra "my val"); k_extra "my bool")
      | ((with_reducible apply tst_ne_t); (focus k_extra "my val"); k_extra "my bool"))
    | ((with_reducible show Tst _ _ _ _ _ _ _ _ (PySem.Expr.Compare _ [PySem.CmpOp.Eq] [PySem.Expr.Name _ _] _) _); (with_reducible apply tst_eqb); (focus k_extra "my val"); (focus k_extra "my val"); exact rfl)
    | ((with_reducible show Tst _ _ _ _ _ _ _ _ (PySem.Expr.BoolOp _ _ _) _); first
      | ((with_reducible apply tst_or_no); (focus k_extra "my tst"); k_extra "my tst")
      | ((with_reducible apply tst_or_yes); k_extra "my tst"))
    | ((with_reducible show Tst _ _ _ _ _ _ _ _ (PySem.Expr.Name _ _) _); (with_reducible apply tst_val); (focus k_extra "my val"); intro _; rfl)
  k_with "execs cons If" => (k_here; k_dflt ((rename Fr _ _ _ _ => kF); (rename News _ _ _ _ => kN); first
    | (apply skip_use kF kN; (focus ((with_reducible apply skip_cons); (focus k_extra "my tst"); k_extra "my skip")); intro h' tk' F' N'; k_sweep)
    | ((with_reducible show wpAny _ _ (execs (PySem.Stmt.If _ [PySem.Stmt.Return (some _) _] _ _ :: _) _) _ _ _); refine s_yes kF kN ?_ ?_; (focus k_extra "my tst"); intro h' tk' F' N'; k_sweep)
    | (refine s_yes2 kF kN ?_ ?_; (focus k_extra "my tst"); intro h' tk' F' N'; k_sweep)))
  k_with "execs cons Return" => (k_here; with_reducible refine s_ret ?_)
  k_with "execs cons Assign" => (k_here; (with_reducible show wpAny _ _ (execs (PySem.Stmt.Assign [PySem.Expr.Name _ _] (PySem.Expr.Subscript _ (PySem.Expr.Constant _ _ _) _) _ :: _) _) _ _ _); k_dflt ((with_reducible apply s_let); (focus exact rfl); (focus k_asm); (focus k_asm); (focus k_extra "my val"); (focus exact rfl); (focus exact rfl); (focus exact rfl); intro h' tk' F' N'; k_sweep))
  k_with "ite" => first
    | (k_dflt (refine ite_pos ?_ ?_; (focus decide)))
    | (k_dflt (refine ite_neg ?_ ?_; (focus decide)))
    | (with_reducible refine ite_dec ?_ ?_ <;> intro _)
  k_with "eval Subscript" => (k_here; (with_reducible show wpAny _ _ (eval (PySem.Expr.Subscript _ (PySem.Expr.Constant _ _ _) _) _) _ _ _); k_dflt ((rename Fr _ _ _ _ => kF); (rename News _ _ _ _ => kN); apply e_val kF kN; (focus k_extra "my val"); intro tk'))
  k_with "eval Compare" => (k_here; k_dflt ((rename Fr _ _ _ _ => kF); (rename News _ _ _ _ => kN); first
    | ((with_reducible show wpAny _ _ (eval (PySem.Expr.Compare _ [PySem.CmpOp.In] _ _) _) _ _ _); apply e_valH kF kN; (focus k_extra "my val"); intro h' tk' F' N'; k_sweep)
    | (apply e_val kF kN; (focus k_extra "my val"); intro tk')))
  k_with "eval IfExp" => (k_here; k_dflt ((rename Fr _ _ _ _ => kF); (rename News _ _ _ _ => kN); first
    | ((with_reducible show wpAny _ _ (eval (PySem.Expr.IfExp _ (PySem.Expr.Constant (PySem.Const.str _) _ _) (PySem.Expr.Constant (PySem.Const.str _) _ _) _) _) _ _ _); apply e_sel kF kN; (focus k_extra "my tst"); intro h' tk' t' F' N'; k_sweep)
    | (refine e_no kF kN ?_ ?_; (focus k_extra "my tst"); intro h' tk' F' N'; k_sweep)
    | (refine e_yes kF kN ?_ ?_; (focus k_extra "my tst"); intro h' tk' F' N'; k_sweep)
    | (refine' e_if kF kN ?_ ?_ ?_; rotate_left; (focus k_extra "my tst"); (intro hc h' tk' F' N'; k_sweep); rotate_left; (intro hc h' tk' F' N'; k_sweep))))
  k_with "my val" => first
    | ((with_reducible show Val _ _ _ _ _ _ _ (compEnvC _ _ _ _) (PySem.Expr.Name _ _) _); first
      | ((with_reducible apply val_own); (focus k_extra "my mem"); (focus with_reducible assumption); (focus with_reducible assumption); (focus exact rfl); (focus exact rfl); decide)
      | ((with_reducible apply val_free); (focus exact rfl); (focus k_extra "my mem"); (focus k_asm); (focus exact rfl); (focus exact rfl); decide))
    | ((with_reducible show Val _ _ _ _ _ _ _ _ (PySem.Expr.UnaryOp _ _ _) _); (with_reducible apply val_not); k_extra "my val")
    | (with_reducible exact val_bool)
  k_with "my fn" => first
    | ((with_reducible show Val _ _ _ _ _ _ _ (compEnvC _ _ _ _) _ _); (with_reducible apply val_globC); (focus k_asm); (focus k_asm); (focus k_is); (focus exact rfl); (focus exact rfl); (focus exact rfl); decide)
    | ((with_reducible apply val_glob); (focus exact rfl); (focus k_asm); (focus k_asm); (focus k_is); (focus exact rfl); (focus exact rfl); decide)
  k_with "my arg" => first
    | (with_reducible exact arg_int)
    | (with_reducible exact arg_str)
    | ((with_reducible show Arg _ _ _ _ _ _ _ _ (PySem.Expr.BinOp _ _ _ _) _); (with_reducible apply arg_sub); k_extra "my val")
    | ((with_reducible apply arg_val); k_extra "my val")
  k_with "eval Call" => (k_here; k_dflt ((rename Fr _ _ _ _ => kF); (rename News _ _ _ _ => kN); first
    | ((with_reducible show wpAny _ _ (eval (PySem.Expr.Call (PySem.Expr.Name _ _) [_] [] _) _) _ _ _); apply e_call1 kF kN; (focus k_asm); (focus k_extra "my fn"); (focus k_is); (focus k_extra "my arg"); (focus exact rfl); (focus exact rfl); intro tk' t')
    | ((with_reducible show wpAny _ _ (eval (PySem.Expr.Call (PySem.Expr.Name _ _) [_, _] [] _) _) _ _ _); apply e_call2 kF kN; (focus k_asm); (focus k_extra "my fn"); (focus k_is); (focus k_extra "my arg"); (focus k_extra "my arg"); (focus exact rfl); (focus exact rfl); (focus exact rfl); (focus exact rfl); intro tk' t' u')
    | ((with_reducible show wpAny _ _ (eval (PySem.Expr.Call (PySem.Expr.Name _ _) [_, _, _] [] _) _) _ _ _); apply e_call3 kF kN; (focus k_asm); (focus k_extra "my fn"); (focus k_is); (focus k_extra "my arg"); (focus k_extra "my arg"); (focus k_extra "my arg"); (focus exact rfl); (focus exact rfl); (focus exact rfl); (focus exact rfl); (focus exact rfl); intro tk' t' u' v')))
  k_with "CompEnd" => (k_extra "my split"; k_dflt ((with_reducible apply comp_end); (focus k_asm); (focus k_asm); (focus k_extra "my mem"); (focus k_extra "my mem"); (focus k_extra "my mem"); (focus k_extra "my cut"); (focus (first | exact trivial | ((with_reducible apply src_at); k_extra "my mem") | k_extra "my mem"))))
  k_with "TupSrc" => (k_here; k_dflt ((with_reducible apply TupSrc.ledger); (focus exact rfl); (focus k_asm); (focus k_asm); (focus k_extra "my mem"); (focus (first | exact Nat.le_of_ble_eq_true rfl | size_fits)); intro g'; lcg_lit))
  k_with "subscriptTail" => (k_here; (with_reducible show wpAny _ _ (subscriptTail _ _ (Value.ref _) (Value.int _ _)) _ _ _); k_dflt ((with_reducible apply item_tupleT); (focus ((with_reducible apply News.isTup); (focus k_asm); k_extra "my mem")); (focus decide); (focus decide); (focus exact rfl); (focus exact rfl); k_whole))
  k_with "my cut1" => first
    | ((with_reducible apply Cut1.skip); k_extra "my cut1")
    | ((with_reducible apply Cut1.cons); (focus k_extra "my ne"); k_extra "my cut1")
    | ((with_reducible apply Cut1.base); k_extra "my off1")
  k_with "my above" => first
    | (with_reducible assumption)
    | (with_reducible exact above_nil)
    | ((with_reducible refine above_cons ?_ ?_); (focus with_reducible assumption); k_extra "my above")
    | ((with_reducible refine above_app ?_ ?_) <;> k_extra "my above")
  k_with "my ord" => first
    | (with_reducible assumption)
    | ((with_reducible refine ordU ?_ ?_) <;> k_extra "my ord")
  k_with "my lt" => ((with_reducible apply allLt_cons); (focus with_reducible assumption); k_extra "my lt")
  k_with "my ends" => first
    | (with_reducible exact Ends.base)
    | ((with_reducible apply Ends.app); k_extra "my ord")
    | ((with_reducible apply Ends.appR); (focus k_extra "my ends"); k_extra "my ord")
    | ((with_reducible apply Ends.cons); (focus k_extra "my lt"); k_extra "my ends")
    | ((with_reducible apply Ends.skip); k_extra "my ends")
  k_with "my ends" => ((with_reducible apply Ends.two); (focus k_extra "my ends"); k_extra "my above")
  k_with "my off1" => first
    | (with_reducible assumption)
    | ((with_reducible refine off1_lt ?_); with_reducible assumption)
    | ((with_reducible refine off1_all ?_); k_extra "my lt")
    | ((with_reducible refine off1_up ?_ (Nat.le_add_right _ 1)); k_extra "my lt")
    | ((with_reducible refine off1_up ?_ (Nat.le_succ_of_le (Nat.le_add_right _ 1))); k_extra "my lt")
    | ((with_reducible refine off1_up ?_ (Nat.le_succ_of_le (Nat.le_succ_of_le (Nat.le_add_right _ 1)))); k_extra "my lt")
    | ((with_reducible refine off1_app ?_ ?_) <;> k_extra "my off1")
  k_with "storeName" => (k_here; k_dflt (refine' store_cell ?F_r1 ?N_r1 ?c_r1 ?m_r1 ?k_r1 ?d_r1 ?_ ?a_r1 ?b_r1; (case a_r1 => rfl); (case b_r1 => rfl); (case c_r1 => rfl); (case F_r1 => k_asm); (case N_r1 => k_asm); (case m_r1 => k_extra "my mem"); (case k_r1 => k_extra "my cut1"); (case d_r1 => with_reducible assumption); k_whole); intro h' o' F' N' d'; (try dsimp only at N'); (try k_sweep))
  k_with "eval Dict cons cons" => (k_here; k_dflt (first
    | (refine' star_pair (knd := PySem.strKind _ _) ?F_r2 ?N_r2 ?sys_r2 ?_; (case F_r2 => k_asm); (case N_r2 => k_asm); (case sys_r2 => refine' sys_low ?T_r2 ?F_r2; (case T_r2 => k_asm); (case F_r2 => k_asm)))
    | (refine' star_two (knd := PySem.strKind _ _) ?F_r3 ?N_r3 ?sys_r3 ?_; (case F_r3 => k_asm); (case N_r3 => k_asm); (case sys_r3 => refine' sys_low ?T_r3 ?F_r3; (case T_r3 => k_asm); (case F_r3 => k_asm)))); intro d' h' F' N' l1 lo'; (try k_lt l1); (try k_sweep))
  k_with "Star1" => (k_extra "my split"; k_dflt (refine' star1 ?F_r4 ?N_r4 ?d_r4 ?e_r4 ?k_r4 ?m_r4 ?y_r4 ?l_r4 ?_; (case F_r4 => k_asm); (case N_r4 => k_asm); (case e_r4 => k_extra "my mem"); (case k_r4 => k_extra "my cut1"); (case m_r4 => refine' Sub.mem ?sm_r4 ?sn_r4; (case sn_r4 => with_reducible assumption); (case sm_r4 => k_extra "my sub")); (case y_r4 => with_reducible assumption); (case d_r4 => with_reducible assumption); (case l_r4 => with_reducible assumption)); intro o' sub' h' tk' d' F' N' off' l1 lt'; (try k_lt l1); (try k_sweep))
  k_with "Star2" => (k_extra "my split"; k_dflt (refine' star2 ?hk_r5 ?F_r5 ?N_r5 ?s_r5 ?e_r5 ?k_r5 ?k1_r5 ?_; (case hk_r5 => exact strKind_is _ _ _ _); (case F_r5 => k_asm); (case N_r5 => k_asm); (case s_r5 => k_extra "my mem"); (case e_r5 => k_extra "my mem"); (case k_r5 => k_extra "my cut1"); (case k1_r5 => k_extra "my cut1")); intro o' h' tk' d' F' N' off')
  k_with "TurnRest" => k_dflt (first
    | (refine TurnRest.cons ?_; intro it' h' tk' F' N' off'; (try simp only [LCg.Off1] at off'); (try simp only [List.cons_append, List.nil_append] at N'))
    | (refine TurnRest.nil ?_; intro h' tk' F' N'; (try simp only [List.cons_append, List.nil_append] at N')))
  k_with "TurnPost" => (dsimp only [TurnPost])
  k_with "TurnEnd" => (k_extra "my split"; k_dflt (refine' turn_end ?F_r6 ?N_r6 ?i_r6 ?k_r6 ?e_r6 ?_; (case F_r6 => k_asm); (case N_r6 => k_asm); (case i_r6 => k_extra "my mem"); (case k_r6 => k_extra "my cut1"); (case e_r6 => k_extra "my mem")))
  k_with "my omega" => ((repeat ((with_reducible rename (@LT.lt Nat _ _ _) => hLt9); clear hLt9)); (repeat ((with_reducible rename (@LT.lt Addr _ _ _) => hLt9); clear hLt9)); k_extra "my clean"; omega)
  k_with "call ref" => first | (k_extra "my split"; k_dflt (apply use_E; (focus k_asm); (focus k_asm); (focus k_asm); (focus k_asm); (focus k_extra "my mem"); (focus k_extra "my cut1"); (focus k_asm); (focus (first | exact rfl | assumption)); (focus k_extra "my mem"); (focus (apply TRel.mk; rotate_left; (focus exact hE); rotate_right; (focus (k_extra "my rel")); (focus (first | (with_reducible assumption) | exact hsc)); (first | (with_reducible assumption) | exact hpl))); (focus (apply IH; exact Nat.add_lt_add_right (by k_extra "my less") 40)); (focus (exact hI)); (focus (k_extra "my sub")); (focus with_reducible assumption); (focus ((simp only [truCost]; k_extra "my omega"))); (focus (first | exact room1 (size := truSize) hd (Nat.add_lt_add_right (by k_extra "my less") 40) | (simp only [truSize, opSize, withinSize, Form.size] at *; ktr_room))); (focus (first | exact units1 (size := truSize) hu (Nat.add_lt_add_right (by k_extra "my less") 40) | (simp only [truSize, opSize, withinSize, Form.size] at *; ktr_units))); intro r9 tl9 h9 tk9 wy9 tw9 F9 N9 hl9 hx9 w90 w91 ho9; (try simp only [List.forall_mem_cons, List.forall_mem_append] at hl9); (try simp only [List.nil_append, List.cons_append] at N9); (dsimp only [truCost] at w91); (simp only [truOut] at ho9); subst ho9; (try dsimp only); (try k_fold))) | (refine wpAny_call ?_; k_dflt k_extra "my enter")
  k_with "subscriptTail Name Subscript" => (k_here; k_dflt first
    | ((with_reducible show wpAny _ _ (subscriptTail _ _ (Value.ref _) (Value.int _ _)) _ _ _); apply inst_at; (focus k_asm); (focus exact hI); (focus k_extra "my sub"); (focus (first | (with_reducible assumption) | exact ⟨by assumption, by assumption⟩)); intro b9 n9 vs9 hs9 hi9 hl9)
    | ((with_reducible show wpAny _ _ (subscriptTail _ _ (Value.ref _) (Value.str _ _)) _ _ _); apply envE_at; (focus k_asm); (focus exact hE); (focus k_extra "my sub"); (focus with_reducible assumption); intro p9 q9 n8 n7 u9 hp9 hq9))
  k_with "call builtin:len" => (k_here; k_dflt (apply len_atoms; (focus k_asm); (focus (apply Sub.mem; rotate_left; (focus with_reducible assumption); k_extra "my sub")); (focus exact hi9); (focus exact hl9); intro t9 tk9))
  k_with "call builtin:all" => (k_here; k_dflt (apply all_led; (focus k_asm); (focus k_asm); (focus rfl); (focus k_extra "my mem"); (focus (first | exact .nil | exact .cons _ .nil | exact .cons _ (.cons _ .nil) | exact hB7)); intro ha9 tka9 Fa9 Na9))
  k_with "call builtin:any" => (k_here; k_dflt (apply any_led; (focus k_asm); (focus k_asm); (focus rfl); (focus k_extra "my mem"); (focus (first | exact .nil | exact .cons _ .nil | exact .cons _ (.cons _ .nil) | exact hB7)); intro ha9 tka9 Fa9 Na9))
  k_with "eval ListComp" => (k_here; k_dflt ((with_reducible show wpAny _ _ (eval (PySem.Expr.ListComp _ [PySem.Comprehension.mk _ _ [] _] _ _) _) _ _ _); apply lc_tuple; (focus k_asm); (focus with_unfolding_all rfl); (focus decide); (focus rfl); (focus decide); (focus rfl)))
  refine wpAny_call ?_
  k_dflt ktr_enter
  walk1
  clear hv9 hm9
  cases hF
  case imp => cases hpl
  case iff => cases hpl
  case tf  =>
    k_extra "my walk"
    all_goals (
      k_extra "my split"
      k_dflt (apply leave_E (Out := truOut S); (focus exact hret); (focus k_asm); (focus k_asm); (focus k_extra "my mem"); (focus k_extra "my ends"); (focus k_extra "my above"); (focus with_reducible assumption); (focus (simp only [truCost, ways]; k_extra "my omega")))
      exact congrArg Value.bool (by first | exact rfl | exact sel_one (by kernel_rfl!) (by kernel_rfl!)))
  case some v r hm hv =>
    have hr9 := hv.rel
    cases hv
    k_extra "my walk"
    all_goals (
      k_extra "my split"
      k_dflt (apply leave_E (Out := truOut S); (focus exact hret); (focus k_asm); (focus k_asm); (focus k_extra "my mem"); (focus k_extra "my ends"); (focus k_extra "my above"); (focus with_reducible assumption); (focus (simp only [truCost, ways]; k_extra "my omega")))
      exact congrArg Value.bool (some_len _))
  case not v f hm hf =>
    dsimp only [sc] at hsc
    have hq9 := ways_0 f
    simp only [ways, truCost] at hw1
    have hpl : plain f = true := plain_atom hpl
    k_extra "my walk"
    all_goals (
      k_extra "my split"
      k_dflt (apply leave_E (Out := truOut S); (focus exact hret); (focus k_asm); (focus k_asm); (focus k_extra "my mem"); (focus k_extra "my ends"); (focus k_extra "my above"); (focus with_reducible assumption); (focus (simp only [truCost, ways]; k_extra "my omega")))
      rfl)
  case con0 b hm hb =>
    cases b
    all_goals (
      k_extra "my walk"
      all_goals (
        k_extra "my split"
        k_dflt (apply leave_E (Out := truOut S); (focus exact hret); (focus k_asm); (focus k_asm); (focus k_extra "my mem"); (focus k_extra "my ends"); (focus k_extra "my above"); (focus with_reducible assumption); (focus (simp only [truCost, ways]; k_extra "my omega")))
        exact congrArg Value.bool rfl))
  case con1 b v f hm hb hf =>
    dsimp only [sc] at hsc
    have hq9 := ways_0 f
    simp only [ways, truCost] at hw1
    simp only [plain] at hpl
    cases b
    all_goals (
      k_extra "my walk"
      all_goals (
        k_extra "my split"
        k_dflt (apply leave_E (Out := truOut S); (focus exact hret); (focus k_asm); (focus k_asm); (focus k_extra "my mem"); (focus k_extra "my ends"); (focus k_extra "my above"); (focus with_reducible assumption); (focus (simp only [truCost, ways]; k_extra "my omega")))
        exact congrArg Value.bool (by simp only [hold, List.all_cons, List.all_nil, List.any_cons, List.any_nil, Bool.and_true, Bool.or_false, id, cond_true, cond_false])))
  case con2 b v f u g hm hb hf hg =>
    dsimp only [sc] at hsc
    have hq9 := ways_0 f
    have hq8 := ways_0 g
    simp only [ways, truCost] at hw1
    simp only [plain, Bool.and_eq_true] at hpl
    cases b
    all_goals (
      k_extra "my walk"
      all_goals (
        k_extra "my split"
        k_dflt (apply leave_E (Out := truOut S); (focus exact hret); (focus k_asm); (focus k_asm); (focus k_extra "my mem"); (focus k_extra "my ends"); (focus k_extra "my above"); (focus with_reducible assumption); (focus (simp only [truCost, ways]; k_extra "my omega")))
        exact congrArg Value.bool (by simp only [hold, List.all_cons, List.all_nil, List.any_cons, List.any_nil, Bool.and_true, Bool.or_false, id, cond_true, cond_false])))
  case inn v u k r hm hu6 hv =>
    have hr9 := hv.rel
    have hk9 : k < e.length := hsc
    cases hv
    cases hu6
    k_with "call ref" => (k_extra "my split"; k_dflt (apply use_P; (focus k_asm); (focus k_asm); (focus k_asm); (focus k_asm); (focus k_asm); (focus (first | exact rfl | assumption)); (focus (exact WRel.mk hp9 hq9 hs9 hi9 hl9)); (focus exact hW _); (focus k_extra "my sub"); (focus (simp only [truSize, opSize, withinSize, Form.size] at *; ktr_room)); (focus (simp only [truSize, opSize, withinSize, Form.size] at *; ktr_units)); intro r9 tl9 h9 tk9 F9 N9 hl99 ho9; (try simp only [List.forall_mem_cons, List.forall_mem_append] at hl99); (try simp only [List.nil_append, List.cons_append] at N9); (refine Exists.elim ho9 ?_; clear ho9; intro b9 ho9); (refine And.elim ?_ ho9; clear ho9; intro e9 ho9); subst e9; (dsimp only at ho9); subst ho9; (try dsimp only); (try k_fold)))
    k_extra "my walk"
    all_goals (
      k_extra "my split"
      k_dflt (apply leave_E (Out := truOut S); (focus exact hret); (focus k_asm); (focus k_asm); (focus k_extra "my mem"); (focus k_extra "my ends"); (focus k_extra "my above"); (focus with_reducible assumption); (focus (simp only [truCost, ways]; k_extra "my omega")))
      rfl)
  case qu c b k rs vs v f hm hdm hdec hf =>
    dsimp only [sc] at hsc
    have hq9 := ways_0 f
    simp only [ways, truCost] at hw1
    simp only [plain] at hpl
    have hke : k = e.length := hsc.1
    subst hke
    have hk7 := hsc.2.2.1
    have hrl2 := hsc.2.1
    have hscf := hsc.2.2.2
    k_with "call ref" => first | (k_extra "my split"; k_dflt (apply use_E; (focus k_asm); (focus k_asm); (focus k_asm); (focus k_asm); (focus k_extra "my mem"); (focus k_extra "my cut1"); (focus k_asm); (focus (first | exact rfl | assumption)); (focus k_extra "my mem"); (focus ((exact OpRel.mk hdm hdec hrl2 hk7 hE))); (focus (exact hOp (rs, e))); (focus (exact hI)); (focus (k_extra "my sub")); (focus with_reducible assumption); (focus ((have hcap9 := capR_6 rs.length; (simp only [opCost]); k_extra "my omega"))); (focus (first | exact room1 (size := truSize) hd (Nat.add_lt_add_right (by k_extra "my less") 40) | (simp only [truSize, opSize, withinSize, Form.size] at *; ktr_room))); (focus (first | exact units1 (size := truSize) hu (Nat.add_lt_add_right (by k_extra "my less") 40) | (simp only [truSize, opSize, withinSize, Form.size] at *; ktr_units))); intro r9 tl9 h9 tk9 wy9 tw9 F9 N9 hl9 hx9 w90 w91 ho9; (try simp only [List.forall_mem_cons, List.forall_mem_append] at hl9); (try simp only [List.nil_append, List.cons_append] at N9); (simp only [opOut] at ho9); (simp only [opCost] at w91); (have hcap9 := capR_6 rs.length); (obtain ⟨a9, vs9, n9, e9, hm9, hp9⟩ := ho9); subst e9; (try dsimp only); (try k_fold))) | (k_extra "my split"; k_dflt (apply use_E; (focus k_asm); (focus k_asm); (focus k_asm); (focus k_asm); (focus k_extra "my mem"); (focus k_extra "my cut1"); (focus k_asm); (focus (first | exact rfl | assumption)); (focus k_extra "my mem"); (focus (apply TRel.mk; rotate_left; (focus exact hE7); rotate_right; (focus (exact hf.mono (Sub.left Sub.refl))); (focus (exact (rowsO_at _ _ he7).symm ▸ hscf)); (first | (with_reducible assumption) | exact hpl))); (focus (apply IH; exact Nat.add_lt_add_right (by k_extra "my less") 40)); (focus (exact hI.mono (Sub.left Sub.refl))); (focus (k_extra "my sub")); (focus with_reducible assumption); (focus ((simp only [truCost]; k_extra "my omega"))); (focus (first | exact room1 (size := truSize) hd (Nat.add_lt_add_right (by k_extra "my less") 40) | (simp only [truSize, opSize, withinSize, Form.size] at *; ktr_room))); (focus (first | exact units1 (size := truSize) hu (Nat.add_lt_add_right (by k_extra "my less") 40) | (simp only [truSize, opSize, withinSize, Form.size] at *; ktr_units))); intro r9 tl9 h9 tk9 wy9 tw9 F9 N9 hl9 hx9 w90 w91 ho9; (try simp only [List.forall_mem_cons, List.forall_mem_append] at hl9); (try simp only [List.nil_append, List.cons_append] at N9); (dsimp only [truCost] at w91); (simp only [truOut] at ho9); subst ho9; (try dsimp only); (try k_fold)))
    k_with "exec Assign cons ListComp" => (k_here; (rename Fr _ _ _ _ => lF'); k_dflt (refine' LCp.Assign_ListComp_P lF' ?hL_qu ?sw_qu ?hc_qu ?hd_qu ?hk_qu ?hn_qu ?hx_qu ?hy_qu ?xy_qu ?hz_qu ?hp_qu ?_ ?s1_qu; (case hL_qu => rfl); (case sw_qu => with_unfolding_all rfl); (case hc_qu => with_unfolding_all rfl); (case hd_qu => decide); (case hk_qu => rfl); (case hn_qu => decide); (case hx_qu => rfl); (case hy_qu => rfl); (case xy_qu => decide); (case hz_qu => rfl); (case hp_qu => rfl); (case s1_qu => intro _; rfl)))
    k_with "SrcLP" => (k_extra "my split"; (k_dflt (refine' pairs_src (w := w) (p := fun e' => hold S f e') (C := ways f) (nm := 4) (pl := nr ++ tl9) ?ph_q ?pF_q ?pN_q ?pX_q ?pc_q ?pm_q hp9 ?pl_q ?pz_q ?pn_q ?pw_q hq9 ?pt_q ?pf_q; (case ph_q => rfl); (case pF_q => k_asm); (case pN_q => k_asm); (case pX_q => k_extra "my mem"); (case pc_q => k_extra "my cut1"); (case pm_q => exact Sub.mem (by k_extra "my sub") hm9); (case pl_q => k_extra "my sub"); (case pz_q => exact rowsO_le (fun r m => S_le hI r (hdec.rels r m)) hrl2); (case pn_q => decide); (case pw_q => with_reducible assumption))); (case pt_q => (intro bs7 hb7 hox7 pl7 en7 e7 v7 wy7 tw7 ys7 tl7 I7 oI7 C7 oC7 D7 m7 h7 tk7 E7 hE7 he7 w70 w71 ho7 hx7 hC7 hx17 hx27 F7 N7 off7 ne7; subst hb7; (try simp only [List.forall_mem_cons, List.forall_mem_append] at ho7); (try simp only [List.nil_append, List.cons_append] at N7); (try simp only [List.cons_append, List.nil_append, LCg.Off3] at off7); k_extra "my split"; k_extra "my steps"; k_extra "my split"; (k_dflt (refine' bool_end ?bF_q ?bN_q ?bi_q ?bc_q ?bd_q ?bk_q ?bx_q ?bX_q ?be_q ?bh_q ?b0_q ?b1_q ?bb_q; (case bF_q => k_asm); (case bN_q => k_asm); (case bi_q => k_extra "my mem"); (case bc_q => k_extra "my mem"); (case bd_q => k_extra "my mem"); (case bk_q => k_extra "my cut"); (case bx_q => k_extra "my mem"); (case bX_q => k_extra "my cut1"); (case be_q => k_extra "my ends"); (case bh_q => k_extra "my above"); (case b0_q => with_reducible assumption); (case b1_q => (k_extra "my omega")); (case bb_q => rfl))))); (case' pf_q => (intro g7 ys7 tl7 wy7 tw7 hB7 ho7 hx7 w70 w71; (try simp only [List.forall_mem_cons, List.forall_mem_append] at ho7); intro D9 h9 tk9 F9 N9 off9; (try simp only [List.nil_append, List.cons_append] at N9); (try simp only [List.cons_append, List.nil_append, LCg.Off1] at off9))))
    k_extra "my walk"
    all_goals (
      k_extra "my split"
      k_dflt (apply leave_E (Out := truOut S); (focus exact hret); (focus k_asm); (focus k_asm); (focus k_extra "my mem"); (focus k_extra "my ends"); (focus k_extra "my above"); (focus with_reducible assumption); (focus (simp only [truCost, ways]; k_extra "my omega")))
      first | (subst hc; exact congrArg Value.bool all_hold) | (subst hc; exact congrArg Value.bool any_hold))
end Mine
namespace Mine
theorem law_walk : PySem.Challenge.rw_rr0087_01.Holds := by
  refine holds_law look fun said => ?_
  refine holds_open (q := view) (loose := [Str.ofString "set_of_sets"]) (Xt := fun s => xlAt view [] s && recOk (RowW.records (OpenRow.toRowW (OpenLaw.row PySem.Challenge.rw_rr0087_01))) s) (XP := XL view []) (Yf := Hook.obs HK) (Ya := Hook.val HK) (YP := Hook.says HK) (N := 3590) left (Hook.of HK) (Hook.keeps HK) (fun s e => xl_of s (Bool.and_eq_true_iff.mp e).1) XL.keeps (by rfl) (by rfl) (by rfl) (fun s e => recFacts_of (Bool.and_eq_true_iff.mp e).2) (by rfl) (by first | assumption | decide +kernel) (by decide +kernel) ⟨rfl, rfl, rfl, rfl, rfl, by decide +kernel⟩ ?hw ?hc
  case hw => w_witness2
  have : heap = heap ∧ PySem.Challenge.rw_rr0087_01 = PySem.Challenge.rw_rr0087_01 := by
    k_fill
    exact ⟨rfl, rfl⟩
  k_with_none
  k_with "my enter" => first
    | (refine' code_def ?k1_en0 ?k2_en0 ?k3_en0 ?k4_en0 ?k5_en0 ?kA_en0 ?kF_en0 ?kK_en0 ?k6_en0 ?k7_en0 ?k8_en0 ?k9_en0 ?kB_en0 ?_ ?c2_en0 ?c3_en0 ?c4_en0 ?c5_en0; (case kA_en0 => exact rfl); (case kF_en0 => exact rfl); (case kK_en0 => first | exact rfl | assumption); (case k1_en0 => k_asm); (case k2_en0 => k_asm); (case k3_en0 => k_asm); (case k4_en0 => k_asm); (case k5_en0 => k_asm); (case k6_en0 => k_is); (case k7_en0 => k_is); (case k8_en0 => ktr_room); (case k9_en0 => exact BindsTo.of_eq rfl); (case c5_en0 => decide); (case kB_en0 => exact locs rfl); (case c2_en0 => exact rfl); (case c3_en0 => exact rfl); (case c4_en0 => exact rfl); k_whole; intro g' L' h' FG' F' N' B' X' T'; (try dsimp only); (try k_fold))
    | (refine' code_defC ?k1_en1 ?k2_en1 ?k3_en1 ?k4_en1 ?k5_en1 ?kA_en1 ?kF_en1 ?kK_en1 ?k6_en1 ?k7_en1 ?k8_en1 ?k9_en1 ?kB_en1 ?kD_en1 ?_ ?c2_en1 ?c3_en1 ?c4_en1; (case kA_en1 => exact rfl); (case kF_en1 => exact rfl); (case kK_en1 => first | exact rfl | assumption); (case k1_en1 => k_asm); (case k2_en1 => k_asm); (case k3_en1 => k_asm); (case k4_en1 => k_asm); (case k5_en1 => k_asm); (case k6_en1 => k_is); (case k7_en1 => k_is); (case k8_en1 => ktr_room); (case k9_en1 => exact BindsTo.of_eq rfl); (case kB_en1 => exact rfl); (case kD_en1 => decide +kernel); (case c2_en1 => exact rfl); (case c3_en1 => exact rfl); (case c4_en1 => exact rfl); k_whole; intro g' L' h' tk' cells' FG' F' N' Y' B' X' T' l1; (try k_lt l1); (first | (refine cells1 Y' N' ?_; clear Y' N' cells'; intro o1' N' d1') | (refine cells2 Y' N' ?_; clear Y' N' cells'; intro o1' o2' N' d1' d2') | (refine cells3 Y' N' ?_; clear Y' N' cells'; intro o1' o2' o3' N' d1' d2' d3') | (refine cells4 Y' N' ?_; clear Y' N' cells'; intro o1' o2' o3' o4' N' d1' d2' d3' d4')); (repeat ((with_reducible rename (Obj.data _ = Data.cell (bindC _ _ _ _)) => hcl1); (first | (have hcl2 : Obj.data _ = Data.cell (some _) := hcl1) | (have hcl2 : Obj.data _ = Data.cell none := hcl1)); clear hcl1)); (try dsimp only); (try k_fold))
  k_with "my mem" => first
    | (with_reducible assumption)
    | (with_reducible exact List.mem_cons_self)
    | ((with_reducible refine mem_head ?_); exact rfl)
    | ((with_reducible refine List.mem_cons_of_mem _ ?_); k_extra "my mem")
    | ((with_reducible apply Sub.mem); (with_reducible assumption); (with_reducible assumption))
    | ((with_reducible refine List.mem_append.mpr (Or.inl ?_)); k_extra "my mem")
    | ((with_reducible refine List.mem_append.mpr (Or.inr ?_)); k_extra "my mem")
  k_with "my clean" => (repeat ((with_reducible rename (@Ne Nat _ _) => hNe); clear hNe))
  k_with "my split" => (repeat ((with_reducible rename (_ ∧ _) => hAnd); first | ((with_reducible refine (fun hAnd1 hAnd2 hAnd3 hAnd4 hAnd5 hAnd6 hAnd7 hAnd8 hAnd9 hAnd10 hAnd11 hAndR => ?_) (hAnd.1) (hAnd.2.1) (hAnd.2.2.1) (hAnd.2.2.2.1) (hAnd.2.2.2.2.1) (hAnd.2.2.2.2.2.1) (hAnd.2.2.2.2.2.2.1) (hAnd.2.2.2.2.2.2.2.1) (hAnd.2.2.2.2.2.2.2.2.1) (hAnd.2.2.2.2.2.2.2.2.2.1) (hAnd.2.2.2.2.2.2.2.2.2.2.1) (hAnd.2.2.2.2.2.2.2.2.2.2.2)); clear hAnd) | ((with_reducible refine (fun hAnd1 hAnd2 hAnd3 hAnd4 hAnd5 hAnd6 hAnd7 hAndR => ?_) (hAnd.1) (hAnd.2.1) (hAnd.2.2.1) (hAnd.2.2.2.1) (hAnd.2.2.2.2.1) (hAnd.2.2.2.2.2.1) (hAnd.2.2.2.2.2.2.1) (hAnd.2.2.2.2.2.2.2)); clear hAnd) | ((with_reducible refine (fun hAnd1 hAnd2 hAnd3 hAnd4 hAndR => ?_) (hAnd.1) (hAnd.2.1) (hAnd.2.2.1) (hAnd.2.2.2.1) (hAnd.2.2.2.2)); clear hAnd) | ((with_reducible refine (fun hAnd1 hAnd2 hAndR => ?_) (hAnd.1) (hAnd.2.1) (hAnd.2.2)); clear hAnd) | (have hAnd1 := And.left hAnd; have hAnd2 := And.right hAnd; clear hAnd)))
  k_with "my sub" => first
    | (with_reducible exact Sub.refl)
    | (with_reducible assumption)
    | (with_reducible exact Sub.nil)
    | (with_reducible refine Sub.app ?_ ?_ <;> k_extra "my sub")
    | ((with_reducible refine Sub.one ?_ ?_); k_extra "my mem"; k_extra "my sub")
    | ((with_reducible refine Sub.cons ?_); k_extra "my sub")
    | ((with_reducible refine Sub.left ?_); k_extra "my sub")
    | ((with_reducible refine Sub.right ?_); k_extra "my sub")
  k_with "my lt" => first
    | (with_reducible assumption)
    | ((with_reducible refine allLt_of ?_); with_reducible assumption)
    | ((with_reducible apply allLt_app); with_reducible assumption)
    | ((with_reducible apply allLt_app); with_reducible apply allLt_app; with_reducible assumption)
    | ((with_reducible apply allLt_app); with_reducible apply allLt_app; with_reducible apply allLt_app; with_reducible assumption)
    | ((with_reducible apply allLt_app); with_reducible apply allLt_app; with_reducible apply allLt_app; with_reducible apply allLt_app; with_reducible assumption)
    | ((with_reducible apply allLt_app); with_reducible apply allLt_app; with_reducible apply allLt_app; with_reducible apply allLt_app; with_reducible apply allLt_app; with_reducible assumption)
    | ((with_reducible apply allLt_app); with_reducible apply allLt_app; with_reducible apply allLt_app; with_reducible apply allLt_app; with_reducible apply allLt_app; with_reducible apply allLt_app; with_reducible assumption)
    | ((with_reducible apply allLt_app); with_reducible apply allLt_app; with_reducible apply allLt_app; with_reducible apply allLt_app; with_reducible apply allLt_app; with_reducible apply allLt_app; with_reducible apply allLt_app; with_reducible assumption)
  k_with "my ends" => first
    | (with_reducible exact Ends.base)
    | ((with_reducible apply Ends.app); with_reducible assumption)
    | ((with_reducible apply Ends.appR); (focus k_extra "my ends"); with_reducible assumption)
    | ((with_reducible apply Ends.cons); (focus k_extra "my lt"); k_extra "my ends")
    | ((with_reducible apply Ends.skip); k_extra "my ends")
  k_with "my ne" => first
    | (with_reducible assumption)
    | ((with_reducible refine Nat.ne_of_gt ?_); with_reducible assumption)
    | ((with_reducible refine Nat.ne_of_lt ?_); with_reducible assumption)
    | ((with_reducible refine Ne.symm ?_); with_reducible assumption)
    | ((with_reducible refine ne_up1 ?_); with_reducible assumption)
    | ((with_reducible refine ne_up2 ?_); with_reducible assumption)
    | ((with_reducible refine ne_up3 ?_); with_reducible assumption)
  k_with "my off" => first
    | (with_reducible assumption)
    | (with_reducible refine off3_lt ?_ ?_ ?_ <;> with_reducible assumption)
    | (with_reducible refine off3_app ?_ ?_ <;> k_extra "my off")
  k_with "my cut" => first
    | ((with_reducible apply Cut.skipI); k_extra "my cut")
    | ((with_reducible apply Cut.skipC); k_extra "my cut")
    | ((with_reducible apply Cut.skipD); k_extra "my cut")
    | ((with_reducible apply Cut.cons); (focus k_extra "my ne"); (focus k_extra "my ne"); (focus k_extra "my ne"); k_extra "my cut")
    | ((with_reducible apply Cut.base); k_extra "my off")
    | ((with_reducible apply Cut.skip); k_extra "my cut")
  k_with "my off1" => first
    | (with_reducible assumption)
    | ((with_reducible refine off1_lt ?_); with_reducible assumption)
    | (with_reducible refine off1_app ?_ ?_ <;> k_extra "my off1")
  k_with "my steps" => (repeat' (first | ((fail_if_success (fail_if_success (with_reducible show wpAny _ _ (eval _ (compEnvC _ _ _ _)) (LCg.CompEnd _ _ _ _ _ _ _ _ _ _ _ _) _ _))); k_fold) | (k_unfold; (try dsimp only)) | walk1 | (dsimp only; walk1)))
  k_with "my bool" => first
    | ((with_reducible apply sel_one); (focus kernel_rfl!); kernel_rfl!)
    | ((with_reducible apply sel_two); (focus kernel_rfl!); kernel_rfl!)
    | ((with_reducible apply sel_no); (focus kernel_rfl!); kernel_rfl!)
    | ((with_reducible apply sel_in); (focus kernel_rfl!); kernel_rfl!)
    | kernel_rfl!
    | exact rfl
  k_with "my val" => first
    | ((with_reducible show Val _ _ _ _ _ _ _ _ (PySem.Expr.Name _ _) _); first
      | ((with_reducible apply val_local); (focus exact rfl); (focus exact rfl); (focus exact rfl); (focus exact rfl); decide)
      | ((with_reducible apply val_cell); (focus exact rfl); (focus exact rfl); (focus k_extra "my mem"); (focus k_asm); (focus exact rfl); (focus exact rfl); decide))
    | ((with_reducible show Val _ _ _ _ _ _ _ _ (PySem.Expr.Subscript _ _ _) _); (with_reducible apply val_item); (focus k_extra "my val"); (focus k_extra "my mem"); (focus (refine And.intro ?_ ?_; decide; exact rfl)); exact rfl)
    | ((with_reducible show Val _ _ _ _ _ _ _ _ (PySem.Expr.Subscript _ (PySem.Expr.Constant (PySem.Const.int 0) _ _) _) _); (with_reducible apply val_head); (focus k_extra "my val"); (focus with_reducible assumption); k_extra "my mem")
    | ((with_reducible show Val _ _ _ _ _ _ _ _ (PySem.Expr.Compare _ [PySem.CmpOp.Eq] _ _) _); (with_reducible apply val_eq); (focus k_extra "my val"); k_extra "my bool")
    | ((with_reducible show ValH _ _ _ _ _ _ _ _ (PySem.Expr.Compare _ [PySem.CmpOp.In] _ _) _); (with_reducible apply val_in); (focus k_extra "my val"); (focus exact rfl); (focus exact Nat.le_of_ble_eq_true rfl); k_extra "my bool")
  k_with "my val" => first
    | ((with_reducible show Val _ _ _ _ _ _ _ (compEnvC _ _ _ _) (PySem.Expr.Name _ _) _); first
      | ((with_reducible apply val_own); (focus k_extra "my mem"); (focus with_reducible assumption); (focus with_reducible assumption); (focus exact rfl); (focus exact rfl); decide)
      | ((with_reducible apply val_free); (focus exact rfl); (focus k_extra "my mem"); (focus k_asm); (focus exact rfl); (focus exact rfl); decide))
    | ((with_reducible show Val _ _ _ _ _ _ _ _ (PySem.Expr.UnaryOp _ _ _) _); (with_reducible apply val_not); k_extra "my val")
    | (with_reducible exact val_bool)
  k_with "my fn" => first
    | ((with_reducible show Val _ _ _ _ _ _ _ (compEnvC _ _ _ _) _ _); (with_reducible apply val_globC); (focus k_asm); (focus k_asm); (focus k_is); (focus exact rfl); (focus exact rfl); (focus exact rfl); decide)
    | ((with_reducible apply val_glob); (focus exact rfl); (focus k_asm); (focus k_asm); (focus k_is); (focus exact rfl); (focus exact rfl); decide)
  k_with "my arg" => first
    | (with_reducible exact arg_int)
    | (with_reducible exact arg_str)
    | ((with_reducible show Arg _ _ _ _ _ _ _ _ (PySem.Expr.BinOp _ _ _ _) _); (with_reducible apply arg_sub); k_extra "my val")
    | ((with_reducible apply arg_val); k_extra "my val")
  k_with "eval Call" => (k_here; k_dflt ((rename Fr _ _ _ _ => kF); (rename News _ _ _ _ => kN); first
    | ((with_reducible show wpAny _ _ (eval (PySem.Expr.Call (PySem.Expr.Name _ _) [_] [] _) _) _ _ _); apply e_call1 kF kN; (focus k_asm); (focus k_extra "my fn"); (focus k_is); (focus k_extra "my arg"); (focus exact rfl); (focus exact rfl); intro tk' t')
    | ((with_reducible show wpAny _ _ (eval (PySem.Expr.Call (PySem.Expr.Name _ _) [_, _] [] _) _) _ _ _); apply e_call2 kF kN; (focus k_asm); (focus k_extra "my fn"); (focus k_is); (focus k_extra "my arg"); (focus k_extra "my arg"); (focus exact rfl); (focus exact rfl); (focus exact rfl); (focus exact rfl); intro tk' t' u')
    | ((with_reducible show wpAny _ _ (eval (PySem.Expr.Call (PySem.Expr.Name _ _) [_, _, _] [] _) _) _ _ _); apply e_call3 kF kN; (focus k_asm); (focus k_extra "my fn"); (focus k_is); (focus k_extra "my arg"); (focus k_extra "my arg"); (focus k_extra "my arg"); (focus exact rfl); (focus exact rfl); (focus exact rfl); (focus exact rfl); (focus exact rfl); intro tk' t' u' v')))
  k_with "CompEnd" => (k_extra "my split"; k_dflt ((with_reducible apply comp_end); (focus k_asm); (focus k_asm); (focus k_extra "my mem"); (focus k_extra "my mem"); (focus k_extra "my mem"); (focus k_extra "my cut"); (focus (first | exact trivial | ((with_reducible apply src_at); k_extra "my mem") | k_extra "my mem"))))
  k_with "my cut1" => first
    | ((with_reducible apply Cut1.skip); k_extra "my cut1")
    | ((with_reducible apply Cut1.cons); (focus k_extra "my ne"); k_extra "my cut1")
    | ((with_reducible apply Cut1.base); k_extra "my off1")
  k_with "my above" => first
    | (with_reducible assumption)
    | (with_reducible exact above_nil)
    | ((with_reducible refine above_cons ?_ ?_); (focus with_reducible assumption); k_extra "my above")
    | ((with_reducible refine above_app ?_ ?_) <;> k_extra "my above")
  k_with "my ord" => first
    | (with_reducible assumption)
    | ((with_reducible refine ordU ?_ ?_) <;> k_extra "my ord")
  k_with "my lt" => ((with_reducible apply allLt_cons); (focus with_reducible assumption); k_extra "my lt")
  k_with "my ends" => first
    | (with_reducible exact Ends.base)
    | ((with_reducible apply Ends.app); k_extra "my ord")
    | ((with_reducible apply Ends.appR); (focus k_extra "my ends"); k_extra "my ord")
    | ((with_reducible apply Ends.cons); (focus k_extra "my lt"); k_extra "my ends")
    | ((with_reducible apply Ends.skip); k_extra "my ends")
  k_with "my ends" => ((with_reducible apply Ends.two); (focus k_extra "my ends"); k_extra "my above")
  k_with "my off1" => first
    | (with_reducible assumption)
    | ((with_reducible refine off1_lt ?_); with_reducible assumption)
    | ((with_reducible refine off1_all ?_); k_extra "my lt")
    | ((with_reducible refine off1_up ?_ (Nat.le_add_right _ 1)); k_extra "my lt")
    | ((with_reducible refine off1_up ?_ (Nat.le_succ_of_le (Nat.le_add_right _ 1))); k_extra "my lt")
    | ((with_reducible refine off1_up ?_ (Nat.le_succ_of_le (Nat.le_succ_of_le (Nat.le_add_right _ 1)))); k_extra "my lt")
    | ((with_reducible refine off1_app ?_ ?_) <;> k_extra "my off1")
  k_with "TurnRest" => k_dflt (first
    | (refine TurnRest.cons ?_; intro it' h' tk' F' N' off'; (try simp only [LCg.Off1] at off'); (try simp only [List.cons_append, List.nil_append] at N'))
    | (refine TurnRest.nil ?_; intro h' tk' F' N'; (try simp only [List.cons_append, List.nil_append] at N')))
  k_with "TurnPost" => (dsimp only [TurnPost])
  k_with "my omega" => ((repeat ((with_reducible rename (@LT.lt Nat _ _ _) => hLt9); clear hLt9)); (repeat ((with_reducible rename (@LT.lt Addr _ _ _) => hLt9); clear hLt9)); k_extra "my clean"; omega)
  k_with "my bare" => ((repeat ((with_reducible rename (@LT.lt Nat _ _ _) => hLt9); clear hLt9)); (repeat ((with_reducible rename (@LT.lt Addr _ _ _) => hLt9); clear hLt9)); (repeat ((with_reducible rename (AllLt _ _) => hLt9); clear hLt9)); k_extra "my clean")
  k_with "execs cons" => ((try k_fold); (with_reducible refine wpAny_execs_cons ?_); try dsimp only)
  k_with "my off1" => ((with_reducible apply off1_cons); (focus k_extra "my ne"); k_extra "my off1")
  k_with "my off1" => (with_reducible exact off1_nil)
  k_with "my lt" => (with_reducible exact allLt_nil)
  k_with "newTuple" => (k_here; k_dflt (refine' kup_newTuple ?F_w24 ?N_w24 ?_ ?z_w24; (case F_w24 => k_asm); (case N_w24 => k_asm); (case z_w24 => kmk_size)); intro D' h' F' N' l1; (try k_lt l1); (try k_sweep))
  k_with "KdnMade" => (k_here; k_extra "my split"; k_dflt (refine' kdn_made_str ?dF_w14 ?dN_w14 ?dU_w14 ?dd_w14 ?dk_w14 ?dn_w14 ?_; (case dF_w14 => k_asm); (case dN_w14 => k_asm); (case dU_w14 => k_updF); (case dd_w14 => k_asm); (case dk_w14 => rfl); (case dn_w14 => exact of_decide_eq_true (by first | rfl | kernel_rfl!))); intro h8 o8 F8 N8 hd8; first | ((have hfeed : o8.IsDictOf (SK _) (feedK _ 0 _ 0 _) := hd8); (rename IntsAre _ (List.take 40 _) => hTk); (have hxl40 := take_len hTk)) | skip)
  k_with "call ref" => k_extra "my split"; first | ((with_reducible show wpAny _ _ (call (Value.ref 221) _) _ _ _); (k_dflt (refine' use_draw (draw_ok _ _ _ _) ?k1_w1 ?k2_w1 ?k3_w1 ?k4_w1 ?kO_w1 ?kM_w1 ?kY_w1 ?kU_w1 ?k5_w1 ?kK_w1 ?kI_w1 ?kL_w1 ?kX_w1 ?w0_w1 ?w1_w1 ?b0_w1 ?b1_w1 ?kd_w1 ?ku_w1 ?_; (case k1_w1 => k_asm); (case k2_w1 => k_asm); (case k3_w1 => k_asm); (case k4_w1 => k_asm); (case k5_w1 => k_asm); (case kK_w1 => first | exact rfl | assumption); (case kO_w1 => with_reducible assumption); (case kM_w1 => k_extra "my mem"); (case kY_w1 => with_reducible assumption); (case kU_w1 => k_extra "my cut1"); (case kI_w1 => with_reducible assumption); (case kL_w1 => k_extra "my mem"); (case kX_w1 => with_reducible assumption); (case w0_w1 => decide); (case w1_w1 => decide); (case b0_w1 => first | (with_reducible assumption) | (k_extra "my clean"; omega)); (case b1_w1 => (k_extra "my clean"; omega)); (case kd_w1 => ktr_room); (case ku_w1 => ktr_units); intro x9 t9 h9 tk9 o9 tk9' tc9' F9 N9 hd9 x90 x91; (try simp only [List.nil_append, List.cons_append] at N9); (try dsimp only); (try k_fold)))) | ((with_reducible show wpAny _ _ (call (Value.ref 233) _) _ _ _); (k_dflt (refine' use_F (drawn_ok _ _ _ _ (0, 3)) ?k1_w2 ?k2_w2 ?k3_w2 ?k4_w2 ?kO_w2 ?kM_w2 ?kY_w2 ?kU_w2 ?k5_w2 ?kK_w2 ?kI_w2 ?kL_w2 ?kX_w2 ?kR_w2 ?kS_w2 ?b0_w2 ?b1_w2 ?b2_w2 ?b3_w2 ?kd_w2 ?ku_w2 ?_; (case k1_w2 => k_asm); (case k2_w2 => k_asm); (case k3_w2 => k_asm); (case k4_w2 => k_asm); (case k5_w2 => k_asm); (case kK_w2 => first | exact rfl | assumption); (case kO_w2 => with_reducible assumption); (case kM_w2 => k_extra "my mem"); (case kY_w2 => with_reducible assumption); (case kU_w2 => k_extra "my cut1"); (case kI_w2 => with_reducible assumption); (case kL_w2 => k_extra "my mem"); (case kX_w2 => with_reducible assumption); (case kR_w2 => (refine' DnRel.mk ?q0_w2 rfl ?q2_w2; (case q0_w2 => exact NIn.one (n := 0) (vs := []) (k := 0) .nil); (case q2_w2 => decide))); (case kS_w2 => (refine' Sub.one ?qm_w2 Sub.nil; (case qm_w2 => k_extra "my mem"))); (case b0_w2 => first | (with_reducible assumption) | (k_extra "my clean"; omega)); (case b1_w2 => (simp only [drawnCost, costD]; (k_extra "my clean"; omega))); (case b2_w2 => first | (with_reducible assumption) | (k_extra "my clean"; omega)); (case b3_w2 => (simp only [drawnCost, costD]; (k_extra "my clean"; omega))); (case kd_w2 => (simp only [drawnSize]; ktr_room)); (case ku_w2 => (simp only [drawnSize]; ktr_units)); intro r9 Ff tl9 h9 tk9 o9 k9 c9 tk9' tc9' F9 N9 hd9 hl9 hfd9 hk9 hk9' hc9 hc9' hFf hsF hsc0; (simp only [drawnCost, costD] at hk9' hc9'); (try simp only [List.forall_mem_cons, List.forall_mem_append] at hl9); (try simp only [List.nil_append, List.cons_append] at N9); (try dsimp only); (try k_fold)))) | ((with_reducible show wpAny _ _ (call (Value.ref 19) _) _ _ _); (k_dflt (refine' use_P ?k1_w3 ?k2_w3 ?k3_w3 ?k4_w3 ?k5_w3 ?kK_w3 ?kR_w3 (norm_ok _ _ _ _ (Ff, w9)) ?kS_w3 ?kd_w3 ?ku_w3 ?_; (case k1_w3 => k_asm); (case k2_w3 => k_asm); (case k3_w3 => k_asm); (case k4_w3 => k_asm); (case k5_w3 => k_asm); (case kK_w3 => first | exact rfl | assumption); (case kS_w3 => exact Sub.refl); (case kR_w3 => exact NRel.mk (hL9.form.mono (by k_extra "my sub"))); (case kd_w3 => (k_extra "my bare"; (try simp only [normSize, manySize, contrSize, plSize, holdSize, truSize] at *); ktr_room)); (case ku_w3 => (k_extra "my bare"; (try simp only [normSize, manySize, contrSize, plSize, holdSize, truSize] at *); ktr_units)); intro r9 tl9 h9 tk9 F9 N9 hl9 ho9; (try simp only [List.forall_mem_cons, List.forall_mem_append] at hl9); (try simp only [List.nil_append, List.cons_append] at N9); (simp only [normOut] at ho9); (have hN9 := ho9); clear ho9; (try dsimp only); (try k_fold)))) | ((with_reducible show wpAny _ _ (call (Value.ref 19) _) _ _ _); (k_dflt (refine' use_P ?k1_w4 ?k2_w4 ?k3_w4 ?k4_w4 ?k5_w4 ?kK_w4 ?kR_w4 (norm_ok _ _ _ _ ((nf Ff w9), true)) ?kS_w4 ?kd_w4 ?ku_w4 ?_; (case k1_w4 => k_asm); (case k2_w4 => k_asm); (case k3_w4 => k_asm); (case k4_w4 => k_asm); (case k5_w4 => k_asm); (case kK_w4 => first | exact rfl | assumption); (case kS_w4 => exact Sub.refl); (case kR_w4 => exact NRel.mk (hN9.mono (by k_extra "my sub"))); (case kd_w4 => (k_extra "my bare"; (try simp only [normSize, manySize, contrSize, plSize, holdSize, truSize] at *); ktr_room)); (case ku_w4 => (k_extra "my bare"; (try simp only [normSize, manySize, contrSize, plSize, holdSize, truSize] at *); ktr_units)); intro r9 tl9 h9 tk9 F9 N9 hl9 ho9; (try simp only [List.forall_mem_cons, List.forall_mem_append] at hl9); (try simp only [List.nil_append, List.cons_append] at N9); (simp only [normOut, hnt9] at ho9); (have hQ9 := ho9); clear ho9; (try dsimp only); (try k_fold)))) | ((with_reducible show wpAny _ _ (call (Value.ref 19) _) _ _ _); (k_dflt (refine' use_P ?k1_w5 ?k2_w5 ?k3_w5 ?k4_w5 ?k5_w5 ?kK_w5 ?kR_w5 (norm_ok _ _ _ _ ((nf Ff w9), false)) ?kS_w5 ?kd_w5 ?ku_w5 ?_; (case k1_w5 => k_asm); (case k2_w5 => k_asm); (case k3_w5 => k_asm); (case k4_w5 => k_asm); (case k5_w5 => k_asm); (case kK_w5 => first | exact rfl | assumption); (case kS_w5 => exact Sub.refl); (case kR_w5 => exact NRel.mk (hN9.mono (by k_extra "my sub"))); (case kd_w5 => (k_extra "my bare"; (try simp only [normSize, manySize, contrSize, plSize, holdSize, truSize] at *); ktr_room)); (case ku_w5 => (k_extra "my bare"; (try simp only [normSize, manySize, contrSize, plSize, holdSize, truSize] at *); ktr_units)); intro r9 tl9 h9 tk9 F9 N9 hl9 ho9; (try simp only [List.forall_mem_cons, List.forall_mem_append] at hl9); (try simp only [List.nil_append, List.cons_append] at N9); (simp only [normOut, hnf9] at ho9); (have hR9 := ho9); clear ho9; (try dsimp only); (try k_fold)))) | ((with_reducible show wpAny _ _ (call (Value.ref 255) _) _ _ _); (k_dflt (refine' use_P ?k1_w6 ?k2_w6 ?k3_w6 ?k4_w6 ?k5_w6 ?kK_w6 ?kR_w6 (pl_ok _ _ _ _ (nf Ff w9)) ?kS_w6 ?kd_w6 ?ku_w6 ?_; (case k1_w6 => k_asm); (case k2_w6 => k_asm); (case k3_w6 => k_asm); (case k4_w6 => k_asm); (case k5_w6 => k_asm); (case kK_w6 => first | exact rfl | assumption); (case kS_w6 => exact Sub.refl); (case kR_w6 => exact PRel.mk (hN9.mono (by k_extra "my sub")) hpl9); (case kd_w6 => (k_extra "my bare"; (try simp only [normSize, manySize, contrSize, plSize, holdSize, truSize] at *); ktr_room)); (case ku_w6 => (k_extra "my bare"; (try simp only [normSize, manySize, contrSize, plSize, holdSize, truSize] at *); ktr_units)); intro r9 tl9 h9 tk9 F9 N9 hl9 ho9; (try simp only [List.forall_mem_cons, List.forall_mem_append] at hl9); (try simp only [List.nil_append, List.cons_append] at N9); (simp only [plOut] at ho9); subst ho9; (try dsimp only); (try k_fold)))) | ((with_reducible show wpAny _ _ (call (Value.ref 250) _) _ _ _); (k_dflt (refine' use_P ?k1_w7 ?k2_w7 ?k3_w7 ?k4_w7 ?k5_w7 ?kK_w7 ?kR_w7 (many_ok _ _ _ _ (nf Ff w9)) ?kS_w7 ?kd_w7 ?ku_w7 ?_; (case k1_w7 => k_asm); (case k2_w7 => k_asm); (case k3_w7 => k_asm); (case k4_w7 => k_asm); (case k5_w7 => k_asm); (case kK_w7 => first | exact rfl | assumption); (case kS_w7 => exact Sub.refl); (case kR_w7 => exact MRel.mk (hN9.mono (by k_extra "my sub"))); (case kd_w7 => (k_extra "my bare"; (try simp only [normSize, manySize, contrSize, plSize, holdSize, truSize] at *); ktr_room)); (case ku_w7 => (k_extra "my bare"; (try simp only [normSize, manySize, contrSize, plSize, holdSize, truSize] at *); ktr_units)); intro r9 tl9 h9 tk9 F9 N9 hl9 ho9; (try simp only [List.forall_mem_cons, List.forall_mem_append] at hl9); (try simp only [List.nil_append, List.cons_append] at N9); (simp only [manyOut, many_nf] at ho9); (refine Exists.elim ho9 ?_; clear ho9; intro t9 ho9); subst ho9; (try dsimp only); (try k_fold)))) | ((with_reducible show wpAny _ _ (call (Value.ref 250) _) _ _ _); (k_dflt (refine' use_P ?k1_w8 ?k2_w8 ?k3_w8 ?k4_w8 ?k5_w8 ?kK_w8 ?kR_w8 (many_ok _ _ _ _ Ff) ?kS_w8 ?kd_w8 ?ku_w8 ?_; (case k1_w8 => k_asm); (case k2_w8 => k_asm); (case k3_w8 => k_asm); (case k4_w8 => k_asm); (case k5_w8 => k_asm); (case kK_w8 => first | exact rfl | assumption); (case kS_w8 => exact Sub.refl); (case kR_w8 => exact MRel.mk (hL9.form.mono (by k_extra "my sub"))); (case kd_w8 => (k_extra "my bare"; (try simp only [normSize, manySize, contrSize, plSize, holdSize, truSize] at *); ktr_room)); (case ku_w8 => (k_extra "my bare"; (try simp only [normSize, manySize, contrSize, plSize, holdSize, truSize] at *); ktr_units)); intro r9 tl9 h9 tk9 F9 N9 hl9 ho9; (try simp only [List.forall_mem_cons, List.forall_mem_append] at hl9); (try simp only [List.nil_append, List.cons_append] at N9); (simp only [manyOut] at ho9); (refine Exists.elim ho9 ?_; clear ho9; intro t9 ho9); subst ho9; (try dsimp only); (try k_fold)))) | ((with_reducible show wpAny _ _ (call (Value.ref 260) _) _ _ _); (k_dflt (refine' use_P ?k1_w9 ?k2_w9 ?k3_w9 ?k4_w9 ?k5_w9 ?kK_w9 ?kR_w9 (contr_ok _ _ _ _ (nf Ff w9)) ?kS_w9 ?kd_w9 ?ku_w9 ?_; (case k1_w9 => k_asm); (case k2_w9 => k_asm); (case k3_w9 => k_asm); (case k4_w9 => k_asm); (case k5_w9 => k_asm); (case kK_w9 => first | exact rfl | assumption); (case kS_w9 => exact Sub.refl); (case kR_w9 => exact PRel.mk (hN9.mono (by k_extra "my sub")) hpl9); (case kd_w9 => (k_extra "my bare"; (try simp only [normSize, manySize, contrSize, plSize, holdSize, truSize] at *); ktr_room)); (case ku_w9 => (k_extra "my bare"; (try simp only [normSize, manySize, contrSize, plSize, holdSize, truSize] at *); ktr_units)); intro r9 tl9 h9 tk9 F9 N9 hl9 ho9; (try simp only [List.forall_mem_cons, List.forall_mem_append] at hl9); (try simp only [List.nil_append, List.cons_append] at N9); (simp only [contrOut] at ho9); (have hC9 := ho9); clear ho9; (try dsimp only); (try k_fold)))) | ((with_reducible show wpAny _ _ (call (Value.ref 245) _) _ _ _); (k_dflt (refine' use_P ?k1_w10 ?k2_w10 ?k3_w10 ?k4_w10 ?k5_w10 ?kK_w10 ?kR_w10 (holds_ok _ _ _ _ (Ff, setS xs7 xs5, [])) ?kS_w10 ?kd_w10 ?ku_w10 ?_; (case k1_w10 => k_asm); (case k2_w10 => k_asm); (case k3_w10 => k_asm); (case k4_w10 => k_asm); (case k5_w10 => k_asm); (case kK_w10 => first | exact rfl | assumption); (case kS_w10 => exact Sub.refl); (case kR_w10 => (refine' HoldRel.mk ?q0_w10 ?q1_w10 ?q2_w10 ?q3_w10; (case q0_w10 => exact hL5.form.mono (by k_extra "my sub")); (case q1_w10 => (refine' SetsIn.mk ?s1_w10 ?s2_w10 ?s3_w10 hi7 hi5 hl7 hl5; (case s1_w10 => k_extra "my mem"); (case s2_w10 => k_extra "my mem"); (case s3_w10 => k_extra "my mem"))); (case q2_w10 => (refine' DIn.mk ?d1_w10 ?d2_w10 ?d3_w10 .nil ?d4_w10; (case d1_w10 => k_extra "my mem"); (case d2_w10 => with_reducible assumption); (case d3_w10 => with_reducible assumption); (case d4_w10 => decide))); (case q3_w10 => exact hsc0))); (case kd_w10 => (k_extra "my bare"; (try simp only [normSize, manySize, contrSize, plSize, holdSize, truSize] at *); ktr_room)); (case ku_w10 => (k_extra "my bare"; (try simp only [normSize, manySize, contrSize, plSize, holdSize, truSize] at *); ktr_units)); intro r9 tl9 h9 tk9 F9 N9 hl9 ho9; (try simp only [List.forall_mem_cons, List.forall_mem_append] at hl9); (try simp only [List.nil_append, List.cons_append] at N9); (simp only [holdOut] at ho9); subst ho9; (try dsimp only); (try k_fold)))) | ((with_reducible show wpAny _ _ (call (Value.ref 245) _) _ _ _); (k_dflt (refine' use_P ?k1_w11 ?k2_w11 ?k3_w11 ?k4_w11 ?k5_w11 ?kK_w11 ?kR_w11 (holds_ok _ _ _ _ ((nf Ff w9), setS xs7 xs5, [])) ?kS_w11 ?kd_w11 ?ku_w11 ?_; (case k1_w11 => k_asm); (case k2_w11 => k_asm); (case k3_w11 => k_asm); (case k4_w11 => k_asm); (case k5_w11 => k_asm); (case kK_w11 => first | exact rfl | assumption); (case kS_w11 => exact Sub.refl); (case kR_w11 => (refine' HoldRel.mk ?q0_w11 ?q1_w11 ?q2_w11 ?q3_w11; (case q0_w11 => exact hN5.mono (by k_extra "my sub")); (case q1_w11 => (refine' SetsIn.mk ?s1_w11 ?s2_w11 ?s3_w11 hi7 hi5 hl7 hl5; (case s1_w11 => k_extra "my mem"); (case s2_w11 => k_extra "my mem"); (case s3_w11 => k_extra "my mem"))); (case q2_w11 => (refine' DIn.mk ?d1_w11 ?d2_w11 ?d3_w11 .nil ?d4_w11; (case d1_w11 => k_extra "my mem"); (case d2_w11 => with_reducible assumption); (case d3_w11 => with_reducible assumption); (case d4_w11 => decide))); (case q3_w11 => exact hsc9))); (case kd_w11 => (k_extra "my bare"; (try simp only [normSize, manySize, contrSize, plSize, holdSize, truSize] at *); ktr_room)); (case ku_w11 => (k_extra "my bare"; (try simp only [normSize, manySize, contrSize, plSize, holdSize, truSize] at *); ktr_units)); intro r9 tl9 h9 tk9 F9 N9 hl9 ho9; (try simp only [List.forall_mem_cons, List.forall_mem_append] at hl9); (try simp only [List.nil_append, List.cons_append] at N9); (simp only [holdOut, hold_nf0] at ho9); subst ho9; (try dsimp only); (try k_fold)))) | ((with_reducible show wpAny _ _ (call (Value.ref 193) _) _ _ _); (k_dflt (refine' use_E ?k1_w13 ?k2_w13 ?k3_w13 ?k4_w13 ?kM_w13 ?kC_w13 ?k5_w13 ?kK_w13 ?kx_w13 ?kR_w13 (truth_ok _ _ _ _ (setS xs7 xs5) ((nf Ff w9), [])) ?kI_w13 ?kS_w13 ?kw0_w13 ?kw1_w13 ?kd_w13 ?ku_w13 ?_; (case k1_w13 => k_asm); (case k2_w13 => k_asm); (case k3_w13 => k_asm); (case k4_w13 => k_asm); (case k5_w13 => k_asm); (case kK_w13 => first | exact rfl | assumption); (case kM_w13 => k_extra "my mem"); (case kC_w13 => k_extra "my cut1"); (case kx_w13 => k_extra "my mem"); (case kS_w13 => exact Sub.refl); (case kI_w13 => (refine' InstIn.mk ?i1_w13 ?i2_w13 ?i3_w13 (hA5.mono (by k_extra "my sub")) (hB5.mono (by k_extra "my sub")) hl7 hl5; (case i1_w13 => k_extra "my mem"); (case i2_w13 => k_extra "my mem"); (case i3_w13 => k_extra "my mem"))); (case kR_w13 => (refine' TRel.mk ?q0_w13 ?q1_w13 hsc9 hpl9; (case q0_w13 => exact hN5.mono (by k_extra "my sub")); (case q1_w13 => (refine' EIn.mk ?d1_w13 ?d2_w13 ?d3_w13 .nil ?d4_w13; (case d1_w13 => k_extra "my mem"); (case d2_w13 => with_reducible assumption); (case d3_w13 => with_reducible assumption); (case d4_w13 => decide))))); (case kw0_w13 => decide); (case kw1_w13 => (simp only [truCost]; k_extra "my omega")); (case kd_w13 => (k_extra "my bare"; (try simp only [normSize, manySize, contrSize, plSize, holdSize, truSize] at *); ktr_room)); (case ku_w13 => (k_extra "my bare"; (try simp only [normSize, manySize, contrSize, plSize, holdSize, truSize] at *); ktr_units)); intro r9 tl9 h9 tk9 wy9 tw9 F9 N9 hl9 hx9 w90 w91 ho9; (try simp only [List.forall_mem_cons, List.forall_mem_append] at hl9); (try simp only [List.nil_append, List.cons_append] at N9); (simp only [truOut, hold_nf0] at ho9); subst ho9; (try dsimp only); (try k_fold)))) | ((with_reducible show wpAny _ _ (call (Value.ref 210) _) _ _ _); (k_dflt (refine' init_ok _ _ _ _ _ _ _ _ _ _ _ _ _ _ _ _ _ _ _ _ _ _ _ _ ?k1_w12 ?k2_w12 ?k3_w12 ?k4_w12 ?k5_w12 ?kK_w12 ?kd_w12 ?ku_w12 ?_; (case k1_w12 => k_asm); (case k2_w12 => k_asm); (case k3_w12 => k_asm); (case k4_w12 => k_asm); (case k5_w12 => k_asm); (case kK_w12 => first | exact rfl | assumption); (case kd_w12 => (k_extra "my bare"; ktr_room)); (case ku_w12 => (k_extra "my bare"; ktr_units)); intro x9 dx9 h9 tk9 q1 q2 q3 t9 tw9 F9 N9 l9 lt9; (have lx9 := lt_all l9 lt9); (try k_lt l9); (try k_lt lx9); k_extra "my split"; (try dsimp only); (try k_fold))))
  k_with "subscriptTail Name Call" => (k_here; k_dflt (refine' item_near ?iN_w15 ?im_w15 x90 x91 ?i0_w15 ?i1_w15 ?i2_w15 ?i3_w15 ?_; (case iN_w15 => k_asm); (case im_w15 => k_extra "my mem"); (case i0_w15 => k_extra "my mem"); (case i1_w15 => k_extra "my mem"); (case i2_w15 => k_extra "my mem"); (case i3_w15 => k_extra "my mem")); intro b3 n3 vs3 zs5 hm3 hi3 hl3; (try dsimp only); (try k_fold))
  k_with "exec For Name Tuple cons nil" => (k_here; (rename Fr _ _ _ _ => lF'); k_dflt (refine' For_turns lF' ?_ ?hs9_w27; (case hs9_w27 => intro _; rfl); k_whole))
  k_with "exec For Name Name cons nil" => (k_here; (rename Fr _ _ _ _ => lF'); k_dflt (refine' For_turns lF' ?_ ?hs9_w28; (case hs9_w28 => intro _; rfl); k_whole))
  k_with "pyIter ref" => first | (k_dflt (refine' for_tup ?t1_w16 ?t2_w16 ?t3_w16 ?t4_w16 ?_; (case t1_w16 => rfl); (case t2_w16 => k_asm); (case t3_w16 => k_asm); (case t4_w16 => k_extra "my mem")); intro I9 hI9; (try k_lt hI9); k_extra "my split"; (k_dflt (refine' hold_on (law_in (nb := b3) (nvs := vs3) (nn := n3) ?aN_w16 ?aF_w16 ?ae_w16 ?ab_w16 ?an_w16 ?a0_w16 ?a1_w16 ?a2_w16 ?a3_w16 hFf ?as_w16) ?ak_w16; (case aN_w16 => exact ‹News _ _ _ _›); (case aF_w16 => k_asm); (case ae_w16 => rfl); (case ab_w16 => k_extra "my mem"); (case an_w16 => k_extra "my mem"); (case a0_w16 => k_extra "my mem"); (case a1_w16 => k_extra "my mem"); (case a2_w16 => k_extra "my mem"); (case a3_w16 => k_extra "my mem"); (case as_w16 => k_extra "my sub"))); (case' ak_w16 => intro hL0); (k_dflt (refine' each_loop (n1 := (PySem.Str.ofString "wanted")) (n2 := (PySem.Str.ofString "found")) (n3 := (PySem.Str.ofString "one")) (n4 := (PySem.Str.ofString "other")) (n5 := (PySem.Str.ofString "due")) (n6 := (PySem.Str.ofString "judge")) ?oe_w16 ?oturn_w16 ?odone_w16; (case oe_w16 => k_extra "my mem"))); (case' odone_w16 => (intro u8 tl8 h8 tk8 ho8 F8 N8; (try simp only [List.forall_mem_cons, List.forall_mem_append] at ho8); (try simp only [List.nil_append, List.cons_append] at N8); k_extra "my split")); (case' oturn_w16 => (intro bs9 hb9 ent9 v9 tl9 u9 it9 h9 tk9 hv9 ho9 F9 N9 off9; (have hL9 := hL0); (rw [← hb9] at hL9); (refine Exists.elim (mem_two hv9) ?_); intro w9 hw9; subst hw9; clear hb9 hL0; (have hfa9 := drawn_facts hsF hsc0 w9); (have hsN := hfa9.1); (have hsc9 := hfa9.2.1); (have hpl9 := hfa9.2.2.1); (have hwy9 := hfa9.2.2.2.1); (have hwy8 := hfa9.2.2.2.2.1); (have hnt9 := hfa9.2.2.2.2.2.1); (have hnf9 := hfa9.2.2.2.2.2.2.1); (have hsC := hfa9.2.2.2.2.2.2.2.1); (have hscC := hfa9.2.2.2.2.2.2.2.2); clear hfa9))) | (k_dflt (refine' for_list ?t1_w18 ?t2_w18 ?t3_w18 ?t4_w18 ?_; (case t1_w18 => rfl); (case t2_w18 => k_asm); (case t3_w18 => k_asm); (case t4_w18 => exact Sub.mem (by k_extra "my sub") hL7.tab)); intro I5 hI5; (try k_lt hI5); k_extra "my split"; (k_dflt (refine' each_set (n1 := (PySem.Str.ofString "other")) (n2 := (PySem.Str.ofString "due")) (n3 := (PySem.Str.ofString "judge")) (n4 := (PySem.Str.ofString "judge")) (n5 := (PySem.Str.ofString "judge")) (n6 := (PySem.Str.ofString "judge")) ?ie_w18 ?iset_w18 ?iturn_w18 ?idone_w18; (case ie_w18 => exact Sub.mem (by k_extra "my sub") hL7.tab); (case iset_w18 => exact hL7.at (by k_extra "my sub")))); (case' idone_w18 => (intro u4 tl4 h4 tk4 ho4 F4 N4; (try simp only [List.forall_mem_cons, List.forall_mem_append] at ho4); (try simp only [List.nil_append, List.cons_append] at N4); k_extra "my split")); (case' iturn_w18 => (intro bs5 hb5 ent5 b5 n5 vs5 xs5 tl5 u5 it5 h5 tk5 hm5 hi5 hl5 ho5 F5 N5 off5; (have hL5 := hL7.mono (l' := bs5) (by rw [hb5]; k_extra "my sub")); (have hN5 := hN7.mono (news' := bs5) (by rw [hb5]; k_extra "my sub")); (have hm75 : (b7, cellsO vs7 n7) ∈ bs5 := by (rw [hb5]; k_extra "my mem")); (have hm3 := hL5.near); clear hb5))) | (k_dflt (refine' for_list ?t1_w17 ?t2_w17 ?t3_w17 ?t4_w17 ?_; (case t1_w17 => rfl); (case t2_w17 => k_asm); (case t3_w17 => k_asm); (case t4_w17 => exact Sub.mem (by k_extra "my sub") hL9.tab)); intro I7 hI7; (try k_lt hI7); k_extra "my split"; (k_dflt (refine' each_set (n1 := (PySem.Str.ofString "one")) (n2 := (PySem.Str.ofString "other")) (n3 := (PySem.Str.ofString "due")) (n4 := (PySem.Str.ofString "judge")) (n5 := (PySem.Str.ofString "judge")) (n6 := (PySem.Str.ofString "judge")) ?me_w17 ?mset_w17 ?mturn_w17 ?mdone_w17; (case me_w17 => exact Sub.mem (by k_extra "my sub") hL9.tab); (case mset_w17 => exact hL9.at (by k_extra "my sub")))); (case' mdone_w17 => (intro u6 tl6 h6 tk6 ho6 F6 N6; (try simp only [List.forall_mem_cons, List.forall_mem_append] at ho6); (try simp only [List.nil_append, List.cons_append] at N6); k_extra "my split")); (case' mturn_w17 => (intro bs7 hb7 ent7 b7 n7 vs7 xs7 tl7 u7 it7 h7 tk7 hm7 hi7 hl7 ho7 F7 N7 off7; (have hL7 := hL9.mono (l' := bs7) (by rw [hb7]; k_extra "my sub")); (have hN7 := hN9.mono (news' := bs7) (by rw [hb7]; k_extra "my sub")); clear hb7)))
  k_with "ite" => (k_dflt first
    | (refine ite_pos ?hc1_w25 ?_; (case hc1_w25 => decide))
    | (refine ite_neg ?hc2_w25 ?_; (case hc2_w25 => decide))
    | (refine ite_neg ?hc3_w25 ?_; (case hc3_w25 => (simp; done)))
    | (refine ite_pos ?hc4_w25 ?_; (case hc4_w25 => (simp; done)))
    | (with_reducible refine ite_dec ?_ ?_ <;> intro _))
  k_with "compareOp Eq ref ref" => (k_here; k_dflt (refine' lists_eq ?eN_w22 ?ea_w22 ?eb_w22 hi5 hi3 ?eu_w22 ?_; (case eN_w22 => k_asm); (case ea_w22 => k_extra "my mem"); (case eb_w22 => k_extra "my mem"); (case eu_w22 => (k_extra "my bare"; ktr_units))); intro bq9; (try dsimp only))
  k_with "compareOp NotEq" => (k_here; k_dflt first
    | (refine' form_ne ?fN_w21 hQ9 hN9 ?f1_w21 ?f2_w21 hsc9 ?f3_w21 ?fu_w21 ?_; (case fN_w21 => k_asm); (case f1_w21 => k_extra "my sub"); (case f2_w21 => k_extra "my sub"); (case f3_w21 => (k_extra "my bare"; omega)); (case fu_w21 => (k_extra "my bare"; ktr_units)); k_whole)
    | (refine' form_ne ?gN_w21 hR9 hC9 ?g1_w21 ?g2_w21 hscC ?g3_w21 ?gu_w21 ?_; (case gN_w21 => k_asm); (case g1_w21 => k_extra "my sub"); (case g2_w21 => k_extra "my sub"); (case g3_w21 => (k_extra "my bare"; omega)); (case gu_w21 => (k_extra "my bare"; ktr_units)); k_whole))
  k_with "eval ListComp" => (k_here; k_dflt first
    | ((with_reducible show wpAny _ _ (eval (PySem.Expr.ListComp _ [PySem.Comprehension.mk _ (PySem.Expr.Tuple _ _ _) [] _] _ _) _) _ _ _); refine' lc_tuple (F₀ := ?lF_w20) ?lc_w20 ?ld_w20 ?lk_w20 ?ln_w20 ?lx_w20 ?_; (case lF_w20 => k_asm); (case lc_w20 => with_unfolding_all rfl); (case ld_w20 => decide); (case lk_w20 => rfl); (case ln_w20 => decide); (case lx_w20 => rfl))
    | (refine' LCg.ListComp_U ?mF_w20 ?mc_w20 ?md_w20 ?mk_w20 ?mn_w20 ?mx_w20 ?_ ?ms_w20; (case mF_w20 => k_asm); (case mc_w20 => with_unfolding_all rfl); (case md_w20 => decide); (case mk_w20 => rfl); (case mn_w20 => decide); (case mx_w20 => rfl); (case ms_w20 => intro _; rfl)))
  k_with "TupSrc" => (k_dflt ((k_extra "my split"); (k_dflt (refine' inst_src (xs := xs7) (ys := xs5) ?jh_w19 ?jF_w19 ?jN_w19 ?jm_w19 ?j0_w19 ?j1_w19 ?jt_w19 ?jf_w19; (case jh_w19 => rfl); (case jF_w19 => k_asm); (case jN_w19 => k_asm); (case jm_w19 => k_extra "my mem"); (case j0_w19 => (refine' SetIn.mk ?jz_w19 hi7 hl7; (case jz_w19 => k_extra "my mem"))); (case j1_w19 => (refine' SetIn.mk ?jy_w19 hi5 hl5; (case jy_w19 => k_extra "my mem"))))); (case' jf_w19 => (intro g3 s0 s1 n0 n1 w0 w1 tl3 hs0 hA5 hs1 hB5 ho3; (try simp only [List.forall_mem_cons, List.forall_mem_append] at ho3); intro D3 h3 tk3 F3 N3 off3; (try simp only [List.nil_append, List.cons_append] at N3); (try simp only [List.cons_append, List.nil_append, LCg.Off1] at off3); k_extra "my split")); (case' jt_w19 => (intro bs3 hb3 v3 zs3 tl3 I3 oI3 C3 oC3 D3 us3 m3 h3 tk3 E3 hS3 ho3 hC3 hx3 F3 N3 off3 ne3; clear hb3; cases hS3; rename_i b2 n2 vs2 hm2 hi2 hl2; (try simp only [List.cons_append, List.nil_append, LCg.Off3] at off3); k_extra "my split"; cases hi2; (case nil => (k_extra "my steps"; k_extra "my split"; (k_dflt (refine' atoms_end ?wF0_w19 ?wN0_w19 ?wi0_w19 ?wc0_w19 ?wd0_w19 ?wk0_w19 ?we0_w19 ?ws0_w19 ?wT0_w19 ?wA0_w19; (case wF0_w19 => k_asm); (case wN0_w19 => k_asm); (case wi0_w19 => k_extra "my mem"); (case wc0_w19 => k_extra "my mem"); (case wd0_w19 => k_extra "my mem"); (case wk0_w19 => k_extra "my cut"); (case we0_w19 => k_extra "my ends"); (case ws0_w19 => k_extra "my sub"); (case wT0_w19 => k_extra "my mem"); (case wA0_w19 => first | exact .nil | exact .cons (by k_extra "my mem") .nil | exact .cons (by k_extra "my mem") (.cons (by k_extra "my mem") .nil)))))); (case cons hr2 => (cases hr2; (case nil => (k_extra "my steps"; k_extra "my split"; (k_dflt (refine' atoms_end ?wF1_w19 ?wN1_w19 ?wi1_w19 ?wc1_w19 ?wd1_w19 ?wk1_w19 ?we1_w19 ?ws1_w19 ?wT1_w19 ?wA1_w19; (case wF1_w19 => k_asm); (case wN1_w19 => k_asm); (case wi1_w19 => k_extra "my mem"); (case wc1_w19 => k_extra "my mem"); (case wd1_w19 => k_extra "my mem"); (case wk1_w19 => k_extra "my cut"); (case we1_w19 => k_extra "my ends"); (case ws1_w19 => k_extra "my sub"); (case wT1_w19 => k_extra "my mem"); (case wA1_w19 => first | exact .nil | exact .cons (by k_extra "my mem") .nil | exact .cons (by k_extra "my mem") (.cons (by k_extra "my mem") .nil)))))); (case cons hr2 => (cases hr2; (case nil => (k_extra "my steps"; k_extra "my split"; (k_dflt (refine' atoms_end ?wF2_w19 ?wN2_w19 ?wi2_w19 ?wc2_w19 ?wd2_w19 ?wk2_w19 ?we2_w19 ?ws2_w19 ?wT2_w19 ?wA2_w19; (case wF2_w19 => k_asm); (case wN2_w19 => k_asm); (case wi2_w19 => k_extra "my mem"); (case wc2_w19 => k_extra "my mem"); (case wd2_w19 => k_extra "my mem"); (case wk2_w19 => k_extra "my cut"); (case we2_w19 => k_extra "my ends"); (case ws2_w19 => k_extra "my sub"); (case wT2_w19 => k_extra "my mem"); (case wA2_w19 => first | exact .nil | exact .cons (by k_extra "my mem") .nil | exact .cons (by k_extra "my mem") (.cons (by k_extra "my mem") .nil)))))); (case cons => exact absurd hl2 (by simp))))))))))
  k_with "TurnEnd" => (k_extra "my split"; k_dflt (refine' plain_turn ?pz1_w23 ?pz2_w23 ?pz3_w23 ?pz4_w23 ?pz5_w23 ?pz6_w23 ?pz7_w23; (case pz1_w23 => k_asm); (case pz2_w23 => (intro z z1 z2 z3 z4 z5 z6; repeat (first | exact rfl | (refine ov ?_ ?_; (focus with_reducible assumption))))); (case pz3_w23 => k_asm); (case pz4_w23 => k_extra "my mem"); (case pz5_w23 => k_extra "my cut1"); (case pz6_w23 => k_extra "my ends"); (case pz7_w23 => with_reducible assumption)))
  k_with "eval Name" => (k_here; (with_reducible show wpAny _ _ (eval (PySem.Expr.Name (PySem.Str.ofString "tuple") _) _) _ _ _); k_dflt (refine' nameG_B ?nF_w26 ?nX_w26 ?nT_w26 ?ne_w26 ?nv_w26 ?nn_w26 ?_ ?ng_w26 ?nb_w26 ?na_w26 ?nk_w26 ?nd_w26; (case ng_w26 => rfl); (case nb_w26 => rfl); (case na_w26 => rfl); (case nk_w26 => rfl); (case nd_w26 => decide); (case nF_w26 => k_asm); (case nX_w26 => k_asm); (case nT_w26 => k_asm); (case ne_w26 => k_is); (case nv_w26 => boot_fast); (case nn_w26 => decide); k_whole))
  w_strict (k_go0; (all_goals try k_fold); (with_reducible rename Hook.says _ _ _ => hY9); clear hY9; k_extra "my steps"; all_goals (try dsimp only); all_goals (k_end; wrow_close))
end Mine
end
theorem PySem.Challenge.cw_rr0087_01_holds : PySem.Challenge.rw_rr0087_01.Holds := by
  exact Mine.law_walk
