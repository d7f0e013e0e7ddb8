import PyProof.Rows.All
import Wide.All
import OpenK.AllK
import Wide.FinOn
import PySem.Challenge.RW_pb0257_01
open PySem PySem.W PySem.Calls PyProof.Rows
set_option Elab.async false
set_option compiler.extract_closed false
set_option maxRecDepth 100000
set_option maxHeartbeats 2000000
namespace Mine
section
noncomputable def stm (n : Nat) : Stmt := (PySem.Challenge.pw_pb0257_01.main.body.drop n).headD (.Pass default)
noncomputable def mth (n k : Nat) : Stmt := match stm n with
  | .ClassDef _ _ _ body .. => (body.drop k).headD (.Pass default)
  | s => s
noncomputable def fnP : Stmt → Arguments
  | .FunctionDef _ a .. => a
  | _ => ⟨[], [], none, [], [], none, []⟩
noncomputable def fnB : Stmt → List Stmt
  | .FunctionDef _ _ b .. => b
  | _ => []
noncomputable def fnS : Stmt → Scope
  | .FunctionDef _ _ _ _ _ _ s .. => s
  | _ => { kind := .function, names := [], isGenerator := false, isCoroutine := false }
@[reducible] noncomputable def lhsOf {α : Type} {a b : α} (_ : a = b) : α := a
@[reducible] noncomputable def p28 : Arguments := by
  have e : fnP (stm 2) = fnP (stm 2) := rfl
  conv at e => lhs; whnf
  exact lhsOf e
@[reducible] noncomputable def b28 : List Stmt := by
  have e : fnB (stm 2) = fnB (stm 2) := rfl
  conv at e => lhs; whnf
  exact lhsOf e
@[reducible] noncomputable def s28 : Scope := by
  have e : fnS (stm 2) = fnS (stm 2) := rfl
  conv at e => lhs; whnf
  exact lhsOf e
@[reducible] noncomputable def p35 : Arguments := by
  have e : fnP (stm 3) = fnP (stm 3) := rfl
  conv at e => lhs; whnf
  exact lhsOf e
@[reducible] noncomputable def b35 : List Stmt := by
  have e : fnB (stm 3) = fnB (stm 3) := rfl
  conv at e => lhs; whnf
  exact lhsOf e
@[reducible] noncomputable def s35 : Scope := by
  have e : fnS (stm 3) = fnS (stm 3) := rfl
  conv at e => lhs; whnf
  exact lhsOf e
@[reducible] noncomputable def p42 : Arguments := by
  have e : fnP (stm 4) = fnP (stm 4) := rfl
  conv at e => lhs; whnf
  exact lhsOf e
@[reducible] noncomputable def b42 : List Stmt := by
  have e : fnB (stm 4) = fnB (stm 4) := rfl
  conv at e => lhs; whnf
  exact lhsOf e
@[reducible] noncomputable def s42 : Scope := by
  have e : fnS (stm 4) = fnS (stm 4) := rfl
  conv at e => lhs; whnf
  exact lhsOf e
@[reducible] noncomputable def p49 : Arguments := by
  have e : fnP (stm 5) = fnP (stm 5) := rfl
  conv at e => lhs; whnf
  exact lhsOf e
@[reducible] noncomputable def b49 : List Stmt := by
  have e : fnB (stm 5) = fnB (stm 5) := rfl
  conv at e => lhs; whnf
  exact lhsOf e
@[reducible] noncomputable def s49 : Scope := by
  have e : fnS (stm 5) = fnS (stm 5) := rfl
  conv at e => lhs; whnf
  exact lhsOf e
@[reducible] noncomputable def p56 : Arguments := by
  have e : fnP (stm 6) = fnP (stm 6) := rfl
  conv at e => lhs; whnf
  exact lhsOf e
@[reducible] noncomputable def b56 : List Stmt := by
  have e : fnB (stm 6) = fnB (stm 6) := rfl
  conv at e => lhs; whnf
  exact lhsOf e
@[reducible] noncomputable def s56 : Scope := by
  have e : fnS (stm 6) = fnS (stm 6) := rfl
  conv at e => lhs; whnf
  exact lhsOf e
@[reducible] noncomputable def p72 : Arguments := by
  have e : fnP (mth 8 0) = fnP (mth 8 0) := rfl
  conv at e => lhs; whnf
  exact lhsOf e
@[reducible] noncomputable def b72 : List Stmt := by
  have e : fnB (mth 8 0) = fnB (mth 8 0) := rfl
  conv at e => lhs; whnf
  exact lhsOf e
@[reducible] noncomputable def s72 : Scope := by
  have e : fnS (mth 8 0) = fnS (mth 8 0) := rfl
  conv at e => lhs; whnf
  exact lhsOf e
@[reducible] noncomputable def p112 : Arguments := by
  have e : fnP (mth 11 0) = fnP (mth 11 0) := rfl
  conv at e => lhs; whnf
  exact lhsOf e
@[reducible] noncomputable def b112 : List Stmt := by
  have e : fnB (mth 11 0) = fnB (mth 11 0) := rfl
  conv at e => lhs; whnf
  exact lhsOf e
@[reducible] noncomputable def s112 : Scope := by
  have e : fnS (mth 11 0) = fnS (mth 11 0) := rfl
  conv at e => lhs; whnf
  exact lhsOf e
@[reducible] noncomputable def p120 : Arguments := by
  have e : fnP (mth 11 1) = fnP (mth 11 1) := rfl
  conv at e => lhs; whnf
  exact lhsOf e
@[reducible] noncomputable def b120 : List Stmt := by
  have e : fnB (mth 11 1) = fnB (mth 11 1) := rfl
  conv at e => lhs; whnf
  exact lhsOf e
@[reducible] noncomputable def s120 : Scope := by
  have e : fnS (mth 11 1) = fnS (mth 11 1) := rfl
  conv at e => lhs; whnf
  exact lhsOf e
@[reducible] noncomputable def p134 : Arguments := by
  have e : fnP (mth 11 3) = fnP (mth 11 3) := rfl
  conv at e => lhs; whnf
  exact lhsOf e
@[reducible] noncomputable def b134 : List Stmt := by
  have e : fnB (mth 11 3) = fnB (mth 11 3) := rfl
  conv at e => lhs; whnf
  exact lhsOf e
@[reducible] noncomputable def s134 : Scope := by
  have e : fnS (mth 11 3) = fnS (mth 11 3) := rfl
  conv at e => lhs; whnf
  exact lhsOf e
@[reducible] noncomputable def p141 : Arguments := by
  have e : fnP (mth 11 4) = fnP (mth 11 4) := rfl
  conv at e => lhs; whnf
  exact lhsOf e
@[reducible] noncomputable def b141 : List Stmt := by
  have e : fnB (mth 11 4) = fnB (mth 11 4) := rfl
  conv at e => lhs; whnf
  exact lhsOf e
@[reducible] noncomputable def s141 : Scope := by
  have e : fnS (mth 11 4) = fnS (mth 11 4) := rfl
  conv at e => lhs; whnf
  exact lhsOf e
@[reducible] noncomputable def p149 : Arguments := by
  have e : fnP (mth 11 5) = fnP (mth 11 5) := rfl
  conv at e => lhs; whnf
  exact lhsOf e
@[reducible] noncomputable def b149 : List Stmt := by
  have e : fnB (mth 11 5) = fnB (mth 11 5) := rfl
  conv at e => lhs; whnf
  exact lhsOf e
@[reducible] noncomputable def s149 : Scope := by
  have e : fnS (mth 11 5) = fnS (mth 11 5) := rfl
  conv at e => lhs; whnf
  exact lhsOf e
@[reducible] noncomputable def p156 : Arguments := by
  have e : fnP (mth 11 6) = fnP (mth 11 6) := rfl
  conv at e => lhs; whnf
  exact lhsOf e
@[reducible] noncomputable def b156 : List Stmt := by
  have e : fnB (mth 11 6) = fnB (mth 11 6) := rfl
  conv at e => lhs; whnf
  exact lhsOf e
@[reducible] noncomputable def s156 : Scope := by
  have e : fnS (mth 11 6) = fnS (mth 11 6) := rfl
  conv at e => lhs; whnf
  exact lhsOf e
@[reducible] noncomputable def p163 : Arguments := by
  have e : fnP (mth 11 7) = fnP (mth 11 7) := rfl
  conv at e => lhs; whnf
  exact lhsOf e
@[reducible] noncomputable def b163 : List Stmt := by
  have e : fnB (mth 11 7) = fnB (mth 11 7) := rfl
  conv at e => lhs; whnf
  exact lhsOf e
@[reducible] noncomputable def s163 : Scope := by
  have e : fnS (mth 11 7) = fnS (mth 11 7) := rfl
  conv at e => lhs; whnf
  exact lhsOf e
@[reducible] noncomputable def p286 : Arguments := by
  have e : fnP (mth 13 0) = fnP (mth 13 0) := rfl
  conv at e => lhs; whnf
  exact lhsOf e
@[reducible] noncomputable def b286 : List Stmt := by
  have e : fnB (mth 13 0) = fnB (mth 13 0) := rfl
  conv at e => lhs; whnf
  exact lhsOf e
@[reducible] noncomputable def s286 : Scope := by
  have e : fnS (mth 13 0) = fnS (mth 13 0) := rfl
  conv at e => lhs; whnf
  exact lhsOf e
@[reducible] noncomputable def p305 : Arguments := by
  have e : fnP (stm 15) = fnP (stm 15) := rfl
  conv at e => lhs; whnf
  exact lhsOf e
@[reducible] noncomputable def b305 : List Stmt := by
  have e : fnB (stm 15) = fnB (stm 15) := rfl
  conv at e => lhs; whnf
  exact lhsOf e
@[reducible] noncomputable def s305 : Scope := by
  have e : fnS (stm 15) = fnS (stm 15) := rfl
  conv at e => lhs; whnf
  exact lhsOf e
@[reducible] noncomputable def p312 : Arguments := by
  have e : fnP (stm 16) = fnP (stm 16) := rfl
  conv at e => lhs; whnf
  exact lhsOf e
@[reducible] noncomputable def b312 : List Stmt := by
  have e : fnB (stm 16) = fnB (stm 16) := rfl
  conv at e => lhs; whnf
  exact lhsOf e
@[reducible] noncomputable def s312 : Scope := by
  have e : fnS (stm 16) = fnS (stm 16) := rfl
  conv at e => lhs; whnf
  exact lhsOf e
@[reducible] noncomputable def p319 : Arguments := by
  have e : fnP (stm 17) = fnP (stm 17) := rfl
  conv at e => lhs; whnf
  exact lhsOf e
@[reducible] noncomputable def b319 : List Stmt := by
  have e : fnB (stm 17) = fnB (stm 17) := rfl
  conv at e => lhs; whnf
  exact lhsOf e
@[reducible] noncomputable def s319 : Scope := by
  have e : fnS (stm 17) = fnS (stm 17) := rfl
  conv at e => lhs; whnf
  exact lhsOf e
@[reducible] noncomputable def p324 : Arguments := by
  have e : fnP (stm 18) = fnP (stm 18) := rfl
  conv at e => lhs; whnf
  exact lhsOf e
@[reducible] noncomputable def b324 : List Stmt := by
  have e : fnB (stm 18) = fnB (stm 18) := rfl
  conv at e => lhs; whnf
  exact lhsOf e
@[reducible] noncomputable def s324 : Scope := by
  have e : fnS (stm 18) = fnS (stm 18) := rfl
  conv at e => lhs; whnf
  exact lhsOf e
@[reducible] noncomputable def p329 : Arguments := by
  have e : fnP (stm 19) = fnP (stm 19) := rfl
  conv at e => lhs; whnf
  exact lhsOf e
@[reducible] noncomputable def b329 : List Stmt := by
  have e : fnB (stm 19) = fnB (stm 19) := rfl
  conv at e => lhs; whnf
  exact lhsOf e
@[reducible] noncomputable def s329 : Scope := by
  have e : fnS (stm 19) = fnS (stm 19) := rfl
  conv at e => lhs; whnf
  exact lhsOf e
@[reducible] noncomputable def p336 : Arguments := by
  have e : fnP (stm 20) = fnP (stm 20) := rfl
  conv at e => lhs; whnf
  exact lhsOf e
@[reducible] noncomputable def b336 : List Stmt := by
  have e : fnB (stm 20) = fnB (stm 20) := rfl
  conv at e => lhs; whnf
  exact lhsOf e
@[reducible] noncomputable def s336 : Scope := by
  have e : fnS (stm 20) = fnS (stm 20) := rfl
  conv at e => lhs; whnf
  exact lhsOf e
@[reducible] noncomputable def p343 : Arguments := by
  have e : fnP (stm 21) = fnP (stm 21) := rfl
  conv at e => lhs; whnf
  exact lhsOf e
@[reducible] noncomputable def b343 : List Stmt := by
  have e : fnB (stm 21) = fnB (stm 21) := rfl
  conv at e => lhs; whnf
  exact lhsOf e
@[reducible] noncomputable def s343 : Scope := by
  have e : fnS (stm 21) = fnS (stm 21) := rfl
  conv at e => lhs; whnf
  exact lhsOf e
@[reducible] noncomputable def p350 : Arguments := by
  have e : fnP (stm 22) = fnP (stm 22) := rfl
  conv at e => lhs; whnf
  exact lhsOf e
@[reducible] noncomputable def b350 : List Stmt := by
  have e : fnB (stm 22) = fnB (stm 22) := rfl
  conv at e => lhs; whnf
  exact lhsOf e
@[reducible] noncomputable def s350 : Scope := by
  have e : fnS (stm 22) = fnS (stm 22) := rfl
  conv at e => lhs; whnf
  exact lhsOf e
@[reducible] noncomputable def p355 : Arguments := by
  have e : fnP (stm 23) = fnP (stm 23) := rfl
  conv at e => lhs; whnf
  exact lhsOf e
@[reducible] noncomputable def b355 : List Stmt := by
  have e : fnB (stm 23) = fnB (stm 23) := rfl
  conv at e => lhs; whnf
  exact lhsOf e
@[reducible] noncomputable def s355 : Scope := by
  have e : fnS (stm 23) = fnS (stm 23) := rfl
  conv at e => lhs; whnf
  exact lhsOf e
@[reducible] noncomputable def p360 : Arguments := by
  have e : fnP (stm 24) = fnP (stm 24) := rfl
  conv at e => lhs; whnf
  exact lhsOf e
@[reducible] noncomputable def b360 : List Stmt := by
  have e : fnB (stm 24) = fnB (stm 24) := rfl
  conv at e => lhs; whnf
  exact lhsOf e
@[reducible] noncomputable def s360 : Scope := by
  have e : fnS (stm 24) = fnS (stm 24) := rfl
  conv at e => lhs; whnf
  exact lhsOf e
noncomputable def heap : Params → Frag := fun P => (nat_lit 2, { cls := Value.none, data := Data.dict #[{ hash := PyData.keyHash P (Str.ofString "type.__subclasses__.Exception.0"), key := Value.str (Str.ofString "type.__subclasses__.Exception.0") 287, val := Value.int 82 0 }, { hash := PyData.keyHash P (Str.ofString "type.__subclasses__.Exception.n"), key := Value.str (Str.ofString "type.__subclasses__.Exception.n") 288, val := Value.int 1 0 }] 2 }) ::
  (nat_lit 3, { cls := Value.type "dict", data := Data.dict #[{ hash := PyData.keyHash P (Str.ofString "__name__"), key := Value.str (Str.ofString "__name__") 165, val := Value.str (Str.ofString "law_pb0257_01") 556 }, { hash := PyData.keyHash P (Str.ofString "__doc__"), key := Value.str (Str.ofString "__doc__") 166, val := Value.none }, { hash := PyData.keyHash P (Str.ofString "__package__"), key := Value.str (Str.ofString "__package__") 167, val := Value.none }, { hash := PyData.keyHash P (Str.ofString "__loader__"), key := Value.str (Str.ofString "__loader__") 168, val := Value.builtin "__main__.__loader__#opaque" }, { hash := PyData.keyHash P (Str.ofString "__spec__"), key := Value.str (Str.ofString "__spec__") 169, val := Value.none }, { hash := PyData.keyHash P (Str.ofString "__annotations__"), key := Value.str (Str.ofString "__annotations__") 170, val := Value.ref 6 }, { hash := PyData.keyHash P (Str.ofString "__builtins__"), key := Value.str (Str.ofString "__builtins__") 171, val := Value.ref 4 }, { hash := PyData.keyHash P (Str.ofString "__file__"), key := Value.str (Str.ofString "__file__") 173, val := Value.str (Str.ofString "/claim/cut.py") 172 }, { hash := PyData.keyHash P (Str.ofString "__cached__"), key := Value.str (Str.ofString "__cached__") 174, val := Value.none }, { hash := PyData.keyHash P (Str.ofString "_wall"), key := Value.str (Str.ofString "_wall") 193, val := Value.ref 21 }, { hash := PyData.keyHash P (Str.ofString "word_ahead"), key := Value.str (Str.ofString "word_ahead") 205, val := Value.ref 28 }, { hash := PyData.keyHash P (Str.ofString "phrase_words"), key := Value.str (Str.ofString "phrase_words") 212, val := Value.ref 35 }, { hash := PyData.keyHash P (Str.ofString "opening_length"), key := Value.str (Str.ofString "opening_length") 226, val := Value.ref 42 }, { hash := PyData.keyHash P (Str.ofString "body_here"), key := Value.str (Str.ofString "body_here") 235, val := Value.ref 49 }, { hash := PyData.keyHash P (Str.ofString "branches_here"), key := Value.str (Str.ofString "branches_here") 248, val := Value.ref 56 }, { hash := PyData.keyHash P (Str.ofString "LedgerError"), key := Value.str (Str.ofString "LedgerError") 290, val := Value.ref 82 }, { hash := PyData.keyHash P (Str.ofString "GrammarFault"), key := Value.str (Str.ofString "GrammarFault") 306, val := Value.ref 95 }, { hash := PyData.keyHash P (Str.ofString "Reader"), key := Value.str (Str.ofString "Reader") 509, val := Value.ref 266 }, { hash := PyData.keyHash P (Str.ofString "Token"), key := Value.str (Str.ofString "Token") 555, val := Value.ref 296 }, { hash := PyData.keyHash P (Str.ofString "_law_pen"), key := Value.str (Str.ofString "_law_pen") 563, val := Value.ref 305 }, { hash := PyData.keyHash P (Str.ofString "_law_draw"), key := Value.str (Str.ofString "_law_draw") 574, val := Value.ref 312 }, { hash := PyData.keyHash P (Str.ofString "_law_pick"), key := Value.str (Str.ofString "_law_pick") 582, val := Value.ref 319 }, { hash := PyData.keyHash P (Str.ofString "_law_words"), key := Value.str (Str.ofString "_law_words") 588, val := Value.ref 324 }, { hash := PyData.keyHash P (Str.ofString "_law_reader"), key := Value.str (Str.ofString "_law_reader") 594, val := Value.ref 329 }, { hash := PyData.keyHash P (Str.ofString "_law_phrases"), key := Value.str (Str.ofString "_law_phrases") 604, val := Value.ref 336 }, { hash := PyData.keyHash P (Str.ofString "_law_due"), key := Value.str (Str.ofString "_law_due") 615, val := Value.ref 343 }, { hash := PyData.keyHash P (Str.ofString "_law_body"), key := Value.str (Str.ofString "_law_body") 623, val := Value.ref 350 }, { hash := PyData.keyHash P (Str.ofString "_law_right"), key := Value.str (Str.ofString "_law_right") 629, val := Value.ref 355 }, { hash := PyData.keyHash P (Str.ofString "law"), key := Value.str (Str.ofString "law") 635, val := Value.ref 360 }] 29 }) ::
  (nat_lit 27, { cls := Value.type "code", data := Data.fields #[Value.str (Str.ofString "word_ahead") 196, Value.str (Str.ofString "word_ahead") 197, Value.str (Str.ofString "/claim/cut.py") 198, Value.int 5 0, Value.int 3 0, Value.int 0 0, Value.int 0 0, Value.int 3 0, Value.ref 22, Value.bool true, Value.int 181 0, Value.ref 23, Value.none, Value.ref 24, Value.ref 25, Value.ref 26, Value.int 203 0, Value.int 5 0, Value.str (Str.ofString "/claim/cut.py") 204] }) ::
  (nat_lit 28, { cls := Value.type "function", data := Data.func { name := Str.ofString "word_ahead", qualname := Str.ofString "word_ahead", params := p28, body := FuncBody.stmts b28, scope := s28, globals := 3, closure := [], defaults := Value.none, kwdefaults := Value.none, pyModule := Value.str (Str.ofString "ledgerspeak.readarith") 194, code := Value.ref 27 } }) ::
  (nat_lit 34, { cls := Value.type "code", data := Data.fields #[Value.str (Str.ofString "phrase_words") 206, Value.str (Str.ofString "phrase_words") 207, Value.str (Str.ofString "/claim/cut.py") 208, Value.int 8 0, Value.int 1 0, Value.int 0 0, Value.int 0 0, Value.int 3 0, Value.ref 29, Value.bool true, Value.int 181 0, Value.ref 30, Value.none, Value.ref 31, Value.ref 32, Value.ref 33, Value.int 210 0, Value.int 8 0, Value.str (Str.ofString "/claim/cut.py") 211] }) ::
  (nat_lit 35, { cls := Value.type "function", data := Data.func { name := Str.ofString "phrase_words", qualname := Str.ofString "phrase_words", params := p35, body := FuncBody.stmts b35, scope := s35, globals := 3, closure := [], defaults := Value.none, kwdefaults := Value.none, pyModule := Value.str (Str.ofString "ledgerspeak.readarith") 194, code := Value.ref 34 } }) ::
  (nat_lit 41, { cls := Value.type "code", data := Data.fields #[Value.str (Str.ofString "opening_length") 213, Value.str (Str.ofString "opening_length") 214, Value.str (Str.ofString "/claim/cut.py") 215, Value.int 18 0, Value.int 2 0, Value.int 0 0, Value.int 0 0, Value.int 3 0, Value.ref 36, Value.bool true, Value.int 181 0, Value.ref 37, Value.none, Value.ref 38, Value.ref 39, Value.ref 40, Value.int 224 0, Value.int 18 0, Value.str (Str.ofString "/claim/cut.py") 225] }) ::
  (nat_lit 42, { cls := Value.type "function", data := Data.func { name := Str.ofString "opening_length", qualname := Str.ofString "opening_length", params := p42, body := FuncBody.stmts b42, scope := s42, globals := 3, closure := [], defaults := Value.none, kwdefaults := Value.none, pyModule := Value.str (Str.ofString "ledgerspeak.readarith") 194, code := Value.ref 41 } }) ::
  (nat_lit 48, { cls := Value.type "code", data := Data.fields #[Value.str (Str.ofString "body_here") 227, Value.str (Str.ofString "body_here") 228, Value.str (Str.ofString "/claim/cut.py") 229, Value.int 38 0, Value.int 2 0, Value.int 0 0, Value.int 0 0, Value.int 3 0, Value.ref 43, Value.bool true, Value.int 181 0, Value.ref 44, Value.none, Value.ref 45, Value.ref 46, Value.ref 47, Value.int 233 0, Value.int 38 0, Value.str (Str.ofString "/claim/cut.py") 234] }) ::
  (nat_lit 49, { cls := Value.type "function", data := Data.func { name := Str.ofString "body_here", qualname := Str.ofString "body_here", params := p49, body := FuncBody.stmts b49, scope := s49, globals := 3, closure := [], defaults := Value.none, kwdefaults := Value.none, pyModule := Value.str (Str.ofString "ledgerspeak.readarith") 194, code := Value.ref 48 } }) ::
  (nat_lit 55, { cls := Value.type "code", data := Data.fields #[Value.str (Str.ofString "branches_here") 236, Value.str (Str.ofString "branches_here") 237, Value.str (Str.ofString "/claim/cut.py") 238, Value.int 43 0, Value.int 3 0, Value.int 0 0, Value.int 0 0, Value.int 3 0, Value.ref 50, Value.bool true, Value.int 181 0, Value.ref 51, Value.none, Value.ref 52, Value.ref 53, Value.ref 54, Value.int 246 0, Value.int 43 0, Value.str (Str.ofString "/claim/cut.py") 247] }) ::
  (nat_lit 56, { cls := Value.type "function", data := Data.func { name := Str.ofString "branches_here", qualname := Str.ofString "branches_here", params := p56, body := FuncBody.stmts b56, scope := s56, globals := 3, closure := [], defaults := Value.none, kwdefaults := Value.none, pyModule := Value.str (Str.ofString "ledgerspeak.readarith") 194, code := Value.ref 55 } }) ::
  (nat_lit 57, { cls := Value.type "tuple", data := Data.seq #[Value.type "Exception"] }) ::
  (nat_lit 64, { cls := Value.type "tuple", data := Data.seq #[Value.int 0 263, Value.int 0 264] }) ::
  (nat_lit 65, { cls := Value.type "tuple", data := Data.seq #[Value.ref 64] }) ::
  (nat_lit 71, { cls := Value.type "code", data := Data.fields #[Value.str (Str.ofString "__init__") 265, Value.str (Str.ofString "LedgerError.__init__") 266, Value.str (Str.ofString "/claim/cut.py") 267, Value.int 55 0, Value.int 3 0, Value.int 0 0, Value.int 0 0, Value.int 3 0, Value.ref 66, Value.bool true, Value.int 181 0, Value.ref 67, Value.none, Value.ref 68, Value.ref 69, Value.ref 70, Value.int 271 0, Value.int 55 0, Value.str (Str.ofString "/claim/cut.py") 272] }) ::
  (nat_lit 72, { cls := Value.type "function", data := Data.func { name := Str.ofString "__init__", qualname := Str.ofString "LedgerError.__init__", params := p72, body := FuncBody.stmts b72, scope := s72, globals := 3, closure := [], defaults := Value.ref 65, kwdefaults := Value.none, pyModule := Value.str (Str.ofString "ledgerspeak.errors") 249, code := Value.ref 71 } }) ::
  (nat_lit 80, { cls := Value.type "tuple", data := Data.seq #[Value.str (Str.ofString "at") 281, Value.str (Str.ofString "what") 282] }) ::
  (nat_lit 81, { cls := Value.type "dict", data := Data.dict #[{ hash := PyData.keyHash P (Str.ofString "__module__"), key := Value.str (Str.ofString "__module__") 258, val := Value.str (Str.ofString "ledgerspeak.errors") 249 }, { hash := PyData.keyHash P (Str.ofString "__firstlineno__"), key := Value.str (Str.ofString "__firstlineno__") 262, val := Value.int 53 261 }, { hash := PyData.keyHash P (Str.ofString "__init__"), key := Value.str (Str.ofString "__init__") 273, val := Value.ref 72 }, { hash := PyData.keyHash P (Str.ofString "told"), key := Value.str (Str.ofString "told") 280, val := Value.ref 79 }, { hash := PyData.keyHash P (Str.ofString "__static_attributes__"), key := Value.str (Str.ofString "__static_attributes__") 283, val := Value.ref 80 }, { hash := PyData.keyHash P (Str.ofString "__weakref__"), key := Value.str (Str.ofString "__weakref__") 285, val := Value.ref 83 }, { hash := PyData.keyHash P (Str.ofString "__doc__"), key := Value.str (Str.ofString "__doc__") 286, val := Value.none }] 3 }) ::
  (nat_lit 82, { cls := Value.type "type", data := Data.cls { name := Str.ofString "LedgerError", bases := [Value.type "Exception"], mro := [Value.ref 82, Value.type "Exception", Value.type "BaseException", Value.type "object"], ns := 81, qualname := Str.ofString "LedgerError", subclasses := [Value.ref 95] }, slots := #[some (Value.ref 57), none, some (Value.str (Str.ofString "LedgerError") 251), some (Value.str (Str.ofString "LedgerError") 259), some (Value.builtin "Exception.__new__"), some (Value.bool true)] }) ::
  (nat_lit 86, { cls := Value.type "tuple", data := Data.seq #[Value.ref 82] }) ::
  (nat_lit 93, { cls := Value.type "tuple", data := Data.seq #[] }) ::
  (nat_lit 94, { cls := Value.type "dict", data := Data.dict #[{ hash := PyData.keyHash P (Str.ofString "__module__"), key := Value.str (Str.ofString "__module__") 298, val := Value.str (Str.ofString "ledgerspeak.errors") 249 }, { hash := PyData.keyHash P (Str.ofString "__firstlineno__"), key := Value.str (Str.ofString "__firstlineno__") 302, val := Value.int 62 301 }, { hash := PyData.keyHash P (Str.ofString "__static_attributes__"), key := Value.str (Str.ofString "__static_attributes__") 303, val := Value.ref 93 }, { hash := PyData.keyHash P (Str.ofString "__doc__"), key := Value.str (Str.ofString "__doc__") 304, val := Value.none }] 2 }) ::
  (nat_lit 95, { cls := Value.type "type", data := Data.cls { name := Str.ofString "GrammarFault", bases := [Value.ref 82], mro := [Value.ref 95, Value.ref 82, Value.type "Exception", Value.type "BaseException", Value.type "object"], ns := 94, qualname := Str.ofString "GrammarFault" }, slots := #[some (Value.ref 86), none, some (Value.str (Str.ofString "GrammarFault") 291), some (Value.str (Str.ofString "GrammarFault") 299), some (Value.builtin "Exception.__new__"), some (Value.bool true)] }) ::
  (nat_lit 105, { cls := Value.type "tuple", data := Data.seq #[Value.int 0 321] }) ::
  (nat_lit 111, { cls := Value.type "code", data := Data.fields #[Value.str (Str.ofString "__init__") 322, Value.str (Str.ofString "Reader.__init__") 323, Value.str (Str.ofString "/claim/cut.py") 324, Value.int 67 0, Value.int 3 0, Value.int 0 0, Value.int 0 0, Value.int 3 0, Value.ref 106, Value.bool true, Value.int 181 0, Value.ref 107, Value.none, Value.ref 108, Value.ref 109, Value.ref 110, Value.int 328 0, Value.int 67 0, Value.str (Str.ofString "/claim/cut.py") 329] }) ::
  (nat_lit 112, { cls := Value.type "function", data := Data.func { name := Str.ofString "__init__", qualname := Str.ofString "Reader.__init__", params := p112, body := FuncBody.stmts b112, scope := s112, globals := 3, closure := [], defaults := Value.ref 105, kwdefaults := Value.none, pyModule := Value.str (Str.ofString "ledgerspeak.reader") 307, code := Value.ref 111 } }) ::
  (nat_lit 113, { cls := Value.type "tuple", data := Data.seq #[Value.int 0 331] }) ::
  (nat_lit 119, { cls := Value.type "code", data := Data.fields #[Value.str (Str.ofString "peek") 332, Value.str (Str.ofString "Reader.peek") 333, Value.str (Str.ofString "/claim/cut.py") 334, Value.int 72 0, Value.int 2 0, Value.int 0 0, Value.int 0 0, Value.int 3 0, Value.ref 114, Value.bool true, Value.int 181 0, Value.ref 115, Value.none, Value.ref 116, Value.ref 117, Value.ref 118, Value.int 337 0, Value.int 72 0, Value.str (Str.ofString "/claim/cut.py") 338] }) ::
  (nat_lit 120, { cls := Value.type "function", data := Data.func { name := Str.ofString "peek", qualname := Str.ofString "Reader.peek", params := p120, body := FuncBody.stmts b120, scope := s120, globals := 3, closure := [], defaults := Value.ref 113, kwdefaults := Value.none, pyModule := Value.str (Str.ofString "ledgerspeak.reader") 307, code := Value.ref 119 } }) ::
  (nat_lit 133, { cls := Value.type "code", data := Data.fields #[Value.str (Str.ofString "fault") 347, Value.str (Str.ofString "Reader.fault") 348, Value.str (Str.ofString "/claim/cut.py") 349, Value.int 80 0, Value.int 2 0, Value.int 0 0, Value.int 0 0, Value.int 3 0, Value.ref 128, Value.bool true, Value.int 181 0, Value.ref 129, Value.none, Value.ref 130, Value.ref 131, Value.ref 132, Value.int 352 0, Value.int 80 0, Value.str (Str.ofString "/claim/cut.py") 353] }) ::
  (nat_lit 134, { cls := Value.type "function", data := Data.func { name := Str.ofString "fault", qualname := Str.ofString "Reader.fault", params := p134, body := FuncBody.stmts b134, scope := s134, globals := 3, closure := [], defaults := Value.none, kwdefaults := Value.none, pyModule := Value.str (Str.ofString "ledgerspeak.reader") 307, code := Value.ref 133 } }) ::
  (nat_lit 140, { cls := Value.type "code", data := Data.fields #[Value.str (Str.ofString "take") 355, Value.str (Str.ofString "Reader.take") 356, Value.str (Str.ofString "/claim/cut.py") 357, Value.int 85 0, Value.int 1 0, Value.int 0 0, Value.int 0 0, Value.int 3 0, Value.ref 135, Value.bool true, Value.int 181 0, Value.ref 136, Value.none, Value.ref 137, Value.ref 138, Value.ref 139, Value.int 360 0, Value.int 85 0, Value.str (Str.ofString "/claim/cut.py") 361] }) ::
  (nat_lit 141, { cls := Value.type "function", data := Data.func { name := Str.ofString "take", qualname := Str.ofString "Reader.take", params := p141, body := FuncBody.stmts b141, scope := s141, globals := 3, closure := [], defaults := Value.none, kwdefaults := Value.none, pyModule := Value.str (Str.ofString "ledgerspeak.reader") 307, code := Value.ref 140 } }) ::
  (nat_lit 142, { cls := Value.type "tuple", data := Data.seq #[Value.int 0 363] }) ::
  (nat_lit 148, { cls := Value.type "code", data := Data.fields #[Value.str (Str.ofString "is_kind") 364, Value.str (Str.ofString "Reader.is_kind") 365, Value.str (Str.ofString "/claim/cut.py") 366, Value.int 92 0, Value.int 3 0, Value.int 0 0, Value.int 0 0, Value.int 3 0, Value.ref 143, Value.bool true, Value.int 181 0, Value.ref 144, Value.none, Value.ref 145, Value.ref 146, Value.ref 147, Value.int 371 0, Value.int 92 0, Value.str (Str.ofString "/claim/cut.py") 372] }) ::
  (nat_lit 149, { cls := Value.type "function", data := Data.func { name := Str.ofString "is_kind", qualname := Str.ofString "Reader.is_kind", params := p149, body := FuncBody.stmts b149, scope := s149, globals := 3, closure := [], defaults := Value.ref 142, kwdefaults := Value.none, pyModule := Value.str (Str.ofString "ledgerspeak.reader") 307, code := Value.ref 148 } }) ::
  (nat_lit 155, { cls := Value.type "code", data := Data.fields #[Value.str (Str.ofString "is_word") 374, Value.str (Str.ofString "Reader.is_word") 375, Value.str (Str.ofString "/claim/cut.py") 376, Value.int 96 0, Value.int 2 0, Value.int 0 0, Value.int 0 0, Value.int 3 0, Value.ref 150, Value.bool true, Value.int 181 0, Value.ref 151, Value.none, Value.ref 152, Value.ref 153, Value.ref 154, Value.int 381 0, Value.int 96 0, Value.str (Str.ofString "/claim/cut.py") 382] }) ::
  (nat_lit 156, { cls := Value.type "function", data := Data.func { name := Str.ofString "is_word", qualname := Str.ofString "Reader.is_word", params := p156, body := FuncBody.stmts b156, scope := s156, globals := 3, closure := [], defaults := Value.none, kwdefaults := Value.none, pyModule := Value.str (Str.ofString "ledgerspeak.reader") 307, code := Value.ref 155 } }) ::
  (nat_lit 162, { cls := Value.type "code", data := Data.fields #[Value.str (Str.ofString "skip") 384, Value.str (Str.ofString "Reader.skip") 385, Value.str (Str.ofString "/claim/cut.py") 386, Value.int 104 0, Value.int 2 0, Value.int 0 0, Value.int 0 0, Value.int 3 0, Value.ref 157, Value.bool true, Value.int 181 0, Value.ref 158, Value.none, Value.ref 159, Value.ref 160, Value.ref 161, Value.int 389 0, Value.int 104 0, Value.str (Str.ofString "/claim/cut.py") 390] }) ::
  (nat_lit 163, { cls := Value.type "function", data := Data.func { name := Str.ofString "skip", qualname := Str.ofString "Reader.skip", params := p163, body := FuncBody.stmts b163, scope := s163, globals := 3, closure := [], defaults := Value.none, kwdefaults := Value.none, pyModule := Value.str (Str.ofString "ledgerspeak.reader") 307, code := Value.ref 162 } }) ::
  (nat_lit 264, { cls := Value.type "tuple", data := Data.seq #[Value.str (Str.ofString "at") 499, Value.str (Str.ofString "named") 500, Value.str (Str.ofString "tokens") 501] }) ::
  (nat_lit 265, { cls := Value.type "dict", data := Data.dict #[{ hash := PyData.keyHash P (Str.ofString "__module__"), key := Value.str (Str.ofString "__module__") 316, val := Value.str (Str.ofString "ledgerspeak.reader") 307 }, { hash := PyData.keyHash P (Str.ofString "__firstlineno__"), key := Value.str (Str.ofString "__firstlineno__") 320, val := Value.int 65 319 }, { hash := PyData.keyHash P (Str.ofString "__init__"), key := Value.str (Str.ofString "__init__") 330, val := Value.ref 112 }, { hash := PyData.keyHash P (Str.ofString "peek"), key := Value.str (Str.ofString "peek") 339, val := Value.ref 120 }, { hash := PyData.keyHash P (Str.ofString "is_done"), key := Value.str (Str.ofString "is_done") 346, val := Value.ref 127 }, { hash := PyData.keyHash P (Str.ofString "fault"), key := Value.str (Str.ofString "fault") 354, val := Value.ref 134 }, { hash := PyData.keyHash P (Str.ofString "take"), key := Value.str (Str.ofString "take") 362, val := Value.ref 141 }, { hash := PyData.keyHash P (Str.ofString "is_kind"), key := Value.str (Str.ofString "is_kind") 373, val := Value.ref 149 }, { hash := PyData.keyHash P (Str.ofString "is_word"), key := Value.str (Str.ofString "is_word") 383, val := Value.ref 156 }, { hash := PyData.keyHash P (Str.ofString "skip"), key := Value.str (Str.ofString "skip") 391, val := Value.ref 163 }, { hash := PyData.keyHash P (Str.ofString "need"), key := Value.str (Str.ofString "need") 399, val := Value.ref 170 }, { hash := PyData.keyHash P (Str.ofString "one_of"), key := Value.str (Str.ofString "one_of") 407, val := Value.ref 177 }, { hash := PyData.keyHash P (Str.ofString "word"), key := Value.str (Str.ofString "word") 414, val := Value.ref 184 }, { hash := PyData.keyHash P (Str.ofString "is_name"), key := Value.str (Str.ofString "is_name") 423, val := Value.ref 192 }, { hash := PyData.keyHash P (Str.ofString "name"), key := Value.str (Str.ofString "name") 430, val := Value.ref 199 }, { hash := PyData.keyHash P (Str.ofString "names"), key := Value.str (Str.ofString "names") 437, val := Value.ref 206 }, { hash := PyData.keyHash P (Str.ofString "is_sign"), key := Value.str (Str.ofString "is_sign") 447, val := Value.ref 214 }, { hash := PyData.keyHash P (Str.ofString "skip_sign"), key := Value.str (Str.ofString "skip_sign") 455, val := Value.ref 221 }, { hash := PyData.keyHash P (Str.ofString "need_sign"), key := Value.str (Str.ofString "need_sign") 463, val := Value.ref 228 }, { hash := PyData.keyHash P (Str.ofString "is_number"), key := Value.str (Str.ofString "is_number") 470, val := Value.ref 235 }, { hash := PyData.keyHash P (Str.ofString "signed"), key := Value.str (Str.ofString "signed") 477, val := Value.ref 242 }, { hash := PyData.keyHash P (Str.ofString "whole"), key := Value.str (Str.ofString "whole") 484, val := Value.ref 249 }, { hash := PyData.keyHash P (Str.ofString "literal"), key := Value.str (Str.ofString "literal") 491, val := Value.ref 256 }, { hash := PyData.keyHash P (Str.ofString "octets"), key := Value.str (Str.ofString "octets") 498, val := Value.ref 263 }, { hash := PyData.keyHash P (Str.ofString "__static_attributes__"), key := Value.str (Str.ofString "__static_attributes__") 502, val := Value.ref 264 }, { hash := PyData.keyHash P (Str.ofString "__dict__"), key := Value.str (Str.ofString "__dict__") 504, val := Value.ref 267 }, { hash := PyData.keyHash P (Str.ofString "__weakref__"), key := Value.str (Str.ofString "__weakref__") 506, val := Value.ref 268 }, { hash := PyData.keyHash P (Str.ofString "__doc__"), key := Value.str (Str.ofString "__doc__") 507, val := Value.none }] 4 }) ::
  (nat_lit 266, { cls := Value.type "type", data := Data.cls { name := Str.ofString "Reader", bases := [Value.type "object"], mro := [Value.ref 266, Value.type "object"], ns := 265, qualname := Str.ofString "Reader" }, slots := #[none, none, some (Value.str (Str.ofString "Reader") 309), some (Value.str (Str.ofString "Reader") 317), some (Value.builtin "object.__new__"), some (Value.bool true)] }) ::
  (nat_lit 278, { cls := Value.type "tuple", data := Data.seq #[Value.int 0 524, Value.int 0 525] }) ::
  (nat_lit 279, { cls := Value.type "tuple", data := Data.seq #[Value.ref 278, Value.bool false] }) ::
  (nat_lit 285, { cls := Value.type "code", data := Data.fields #[Value.str (Str.ofString "__init__") 526, Value.str (Str.ofString "Token.__init__") 527, Value.str (Str.ofString "/claim/cut.py") 528, Value.int 156 0, Value.int 5 0, Value.int 0 0, Value.int 0 0, Value.int 3 0, Value.ref 280, Value.bool true, Value.int 181 0, Value.ref 281, Value.none, Value.ref 282, Value.ref 283, Value.ref 284, Value.int 534 0, Value.int 156 0, Value.str (Str.ofString "/claim/cut.py") 535] }) ::
  (nat_lit 286, { cls := Value.type "function", data := Data.func { name := Str.ofString "__init__", qualname := Str.ofString "Token.__init__", params := p286, body := FuncBody.stmts b286, scope := s286, globals := 3, closure := [], defaults := Value.ref 279, kwdefaults := Value.none, pyModule := Value.str (Str.ofString "ledgerspeak.tokens") 510, code := Value.ref 285 } }) ::
  (nat_lit 294, { cls := Value.type "tuple", data := Data.seq #[Value.str (Str.ofString "at") 544, Value.str (Str.ofString "is_in_a") 545, Value.str (Str.ofString "kind") 546, Value.str (Str.ofString "worth") 547] }) ::
  (nat_lit 295, { cls := Value.type "dict", data := Data.dict #[{ hash := PyData.keyHash P (Str.ofString "__module__"), key := Value.str (Str.ofString "__module__") 519, val := Value.str (Str.ofString "ledgerspeak.tokens") 510 }, { hash := PyData.keyHash P (Str.ofString "__firstlineno__"), key := Value.str (Str.ofString "__firstlineno__") 523, val := Value.int 154 522 }, { hash := PyData.keyHash P (Str.ofString "__init__"), key := Value.str (Str.ofString "__init__") 536, val := Value.ref 286 }, { hash := PyData.keyHash P (Str.ofString "told"), key := Value.str (Str.ofString "told") 543, val := Value.ref 293 }, { hash := PyData.keyHash P (Str.ofString "__static_attributes__"), key := Value.str (Str.ofString "__static_attributes__") 548, val := Value.ref 294 }, { hash := PyData.keyHash P (Str.ofString "__dict__"), key := Value.str (Str.ofString "__dict__") 550, val := Value.ref 297 }, { hash := PyData.keyHash P (Str.ofString "__weakref__"), key := Value.str (Str.ofString "__weakref__") 552, val := Value.ref 298 }, { hash := PyData.keyHash P (Str.ofString "__doc__"), key := Value.str (Str.ofString "__doc__") 553, val := Value.none }] 4 }) ::
  (nat_lit 296, { cls := Value.type "type", data := Data.cls { name := Str.ofString "Token", bases := [Value.type "object"], mro := [Value.ref 296, Value.type "object"], ns := 295, qualname := Str.ofString "Token" }, slots := #[none, none, some (Value.str (Str.ofString "Token") 512), some (Value.str (Str.ofString "Token") 520), some (Value.builtin "object.__new__"), some (Value.bool true)] }) ::
  (nat_lit 304, { cls := Value.type "code", data := Data.fields #[Value.str (Str.ofString "_law_pen") 558, Value.str (Str.ofString "_law_pen") 559, Value.str (Str.ofString "/claim/cut.py") 560, Value.int 165 0, Value.int 1 0, Value.int 0 0, Value.int 0 0, Value.int 3 0, Value.ref 301, Value.bool true, Value.int 181 0, Value.ref 302, Value.none, Value.none, Value.none, Value.ref 303, Value.int 561 0, Value.int 165 0, Value.str (Str.ofString "/claim/cut.py") 562] }) ::
  (nat_lit 305, { cls := Value.type "function", data := Data.func { name := Str.ofString "_law_pen", qualname := Str.ofString "_law_pen", params := p305, body := FuncBody.stmts b305, scope := s305, globals := 3, closure := [], defaults := Value.none, kwdefaults := Value.none, pyModule := Value.str (Str.ofString "law_pb0257_01") 556, code := Value.ref 304 } }) ::
  (nat_lit 311, { cls := Value.type "code", data := Data.fields #[Value.str (Str.ofString "_law_draw") 564, Value.str (Str.ofString "_law_draw") 565, Value.str (Str.ofString "/claim/cut.py") 566, Value.int 168 0, Value.int 2 0, Value.int 0 0, Value.int 0 0, Value.int 3 0, Value.ref 306, Value.bool true, Value.int 181 0, Value.ref 307, Value.none, Value.ref 308, Value.ref 309, Value.ref 310, Value.int 572 0, Value.int 168 0, Value.str (Str.ofString "/claim/cut.py") 573] }) ::
  (nat_lit 312, { cls := Value.type "function", data := Data.func { name := Str.ofString "_law_draw", qualname := Str.ofString "_law_draw", params := p312, body := FuncBody.stmts b312, scope := s312, globals := 3, closure := [], defaults := Value.none, kwdefaults := Value.none, pyModule := Value.str (Str.ofString "law_pb0257_01") 556, code := Value.ref 311 } }) ::
  (nat_lit 318, { cls := Value.type "code", data := Data.fields #[Value.str (Str.ofString "_law_pick") 575, Value.str (Str.ofString "_law_pick") 576, Value.str (Str.ofString "/claim/cut.py") 577, Value.int 177 0, Value.int 2 0, Value.int 0 0, Value.int 0 0, Value.int 3 0, Value.ref 313, Value.bool true, Value.int 181 0, Value.ref 314, Value.none, Value.ref 315, Value.ref 316, Value.ref 317, Value.int 580 0, Value.int 177 0, Value.str (Str.ofString "/claim/cut.py") 581] }) ::
  (nat_lit 319, { cls := Value.type "function", data := Data.func { name := Str.ofString "_law_pick", qualname := Str.ofString "_law_pick", params := p319, body := FuncBody.stmts b319, scope := s319, globals := 3, closure := [], defaults := Value.none, kwdefaults := Value.none, pyModule := Value.str (Str.ofString "law_pb0257_01") 556, code := Value.ref 318 } }) ::
  (nat_lit 323, { cls := Value.type "code", data := Data.fields #[Value.str (Str.ofString "_law_words") 583, Value.str (Str.ofString "_law_words") 584, Value.str (Str.ofString "/claim/cut.py") 585, Value.int 179 0, Value.int 1 0, Value.int 0 0, Value.int 0 0, Value.int 3 0, Value.ref 320, Value.bool true, Value.int 181 0, Value.ref 321, Value.none, Value.none, Value.none, Value.ref 322, Value.int 586 0, Value.int 179 0, Value.str (Str.ofString "/claim/cut.py") 587] }) ::
  (nat_lit 324, { cls := Value.type "function", data := Data.func { name := Str.ofString "_law_words", qualname := Str.ofString "_law_words", params := p324, body := FuncBody.stmts b324, scope := s324, globals := 3, closure := [], defaults := Value.none, kwdefaults := Value.none, pyModule := Value.str (Str.ofString "law_pb0257_01") 556, code := Value.ref 323 } }) ::
  (nat_lit 328, { cls := Value.type "code", data := Data.fields #[Value.str (Str.ofString "_law_reader") 589, Value.str (Str.ofString "_law_reader") 590, Value.str (Str.ofString "/claim/cut.py") 591, Value.int 181 0, Value.int 1 0, Value.int 0 0, Value.int 0 0, Value.int 3 0, Value.ref 325, Value.bool true, Value.int 181 0, Value.ref 326, Value.none, Value.none, Value.none, Value.ref 327, Value.int 592 0, Value.int 181 0, Value.str (Str.ofString "/claim/cut.py") 593] }) ::
  (nat_lit 329, { cls := Value.type "function", data := Data.func { name := Str.ofString "_law_reader", qualname := Str.ofString "_law_reader", params := p329, body := FuncBody.stmts b329, scope := s329, globals := 3, closure := [], defaults := Value.none, kwdefaults := Value.none, pyModule := Value.str (Str.ofString "law_pb0257_01") 556, code := Value.ref 328 } }) ::
  (nat_lit 335, { cls := Value.type "code", data := Data.fields #[Value.str (Str.ofString "_law_phrases") 595, Value.str (Str.ofString "_law_phrases") 596, Value.str (Str.ofString "/claim/cut.py") 597, Value.int 183 0, Value.int 0 0, Value.int 0 0, Value.int 0 0, Value.int 3 0, Value.ref 330, Value.bool true, Value.int 181 0, Value.ref 331, Value.none, Value.ref 332, Value.ref 333, Value.ref 334, Value.int 602 0, Value.int 183 0, Value.str (Str.ofString "/claim/cut.py") 603] }) ::
  (nat_lit 336, { cls := Value.type "function", data := Data.func { name := Str.ofString "_law_phrases", qualname := Str.ofString "_law_phrases", params := p336, body := FuncBody.stmts b336, scope := s336, globals := 3, closure := [], defaults := Value.none, kwdefaults := Value.none, pyModule := Value.str (Str.ofString "law_pb0257_01") 556, code := Value.ref 335 } }) ::
  (nat_lit 342, { cls := Value.type "code", data := Data.fields #[Value.str (Str.ofString "_law_due") 605, Value.str (Str.ofString "_law_due") 606, Value.str (Str.ofString "/claim/cut.py") 607, Value.int 192 0, Value.int 2 0, Value.int 0 0, Value.int 0 0, Value.int 3 0, Value.ref 337, Value.bool true, Value.int 181 0, Value.ref 338, Value.none, Value.ref 339, Value.ref 340, Value.ref 341, Value.int 613 0, Value.int 192 0, Value.str (Str.ofString "/claim/cut.py") 614] }) ::
  (nat_lit 343, { cls := Value.type "function", data := Data.func { name := Str.ofString "_law_due", qualname := Str.ofString "_law_due", params := p343, body := FuncBody.stmts b343, scope := s343, globals := 3, closure := [], defaults := Value.none, kwdefaults := Value.none, pyModule := Value.str (Str.ofString "law_pb0257_01") 556, code := Value.ref 342 } }) ::
  (nat_lit 349, { cls := Value.type "code", data := Data.fields #[Value.str (Str.ofString "_law_body") 616, Value.str (Str.ofString "_law_body") 617, Value.str (Str.ofString "/claim/cut.py") 618, Value.int 201 0, Value.int 1 0, Value.int 0 0, Value.int 0 0, Value.int 3 0, Value.ref 344, Value.bool true, Value.int 181 0, Value.ref 345, Value.none, Value.ref 346, Value.ref 347, Value.ref 348, Value.int 621 0, Value.int 201 0, Value.str (Str.ofString "/claim/cut.py") 622] }) ::
  (nat_lit 350, { cls := Value.type "function", data := Data.func { name := Str.ofString "_law_body", qualname := Str.ofString "_law_body", params := p350, body := FuncBody.stmts b350, scope := s350, globals := 3, closure := [], defaults := Value.none, kwdefaults := Value.none, pyModule := Value.str (Str.ofString "law_pb0257_01") 556, code := Value.ref 349 } }) ::
  (nat_lit 354, { cls := Value.type "code", data := Data.fields #[Value.str (Str.ofString "_law_right") 624, Value.str (Str.ofString "_law_right") 625, Value.str (Str.ofString "/claim/cut.py") 626, Value.int 206 0, Value.int 2 0, Value.int 0 0, Value.int 0 0, Value.int 3 0, Value.ref 351, Value.bool true, Value.int 181 0, Value.ref 352, Value.none, Value.none, Value.none, Value.ref 353, Value.int 627 0, Value.int 206 0, Value.str (Str.ofString "/claim/cut.py") 628] }) ::
  (nat_lit 355, { cls := Value.type "function", data := Data.func { name := Str.ofString "_law_right", qualname := Str.ofString "_law_right", params := p355, body := FuncBody.stmts b355, scope := s355, globals := 3, closure := [], defaults := Value.none, kwdefaults := Value.none, pyModule := Value.str (Str.ofString "law_pb0257_01") 556, code := Value.ref 354 } }) ::
  (nat_lit 359, { cls := Value.type "code", data := Data.fields #[Value.str (Str.ofString "law") 630, Value.str (Str.ofString "law") 631, Value.str (Str.ofString "/claim/cut.py") 632, Value.int 221 0, Value.int 1 0, Value.int 0 0, Value.int 0 0, Value.int 3 0, Value.ref 356, Value.bool true, Value.int 181 0, Value.ref 357, Value.none, Value.none, Value.none, Value.ref 358, Value.int 633 0, Value.int 221 0, Value.str (Str.ofString "/claim/cut.py") 634] }) ::
  (nat_lit 360, { cls := Value.type "function", data := Data.func { name := Str.ofString "law", qualname := Str.ofString "law", params := p360, body := FuncBody.stmts b360, scope := s360, globals := 3, closure := [], defaults := Value.none, kwdefaults := Value.none, pyModule := Value.str (Str.ofString "law_pb0257_01") 556, code := Value.ref 359 } }) :: []
noncomputable def addrs : List Addr := nat_lit 2 :: nat_lit 3 :: nat_lit 27 :: nat_lit 28 :: nat_lit 34 :: nat_lit 35 :: nat_lit 41 :: nat_lit 42 :: nat_lit 48 :: nat_lit 49 :: nat_lit 55 :: nat_lit 56 :: nat_lit 57 :: nat_lit 64 :: nat_lit 65 :: nat_lit 71 :: nat_lit 72 :: nat_lit 80 :: nat_lit 81 :: nat_lit 82 :: nat_lit 86 :: nat_lit 93 :: nat_lit 94 :: nat_lit 95 :: nat_lit 105 :: nat_lit 111 :: nat_lit 112 :: nat_lit 113 :: nat_lit 119 :: nat_lit 120 :: nat_lit 133 :: nat_lit 134 :: nat_lit 140 :: nat_lit 141 :: nat_lit 142 :: nat_lit 148 :: nat_lit 149 :: nat_lit 155 :: nat_lit 156 :: nat_lit 162 :: nat_lit 163 :: nat_lit 264 :: nat_lit 265 :: nat_lit 266 :: nat_lit 278 :: nat_lit 279 :: nat_lit 285 :: nat_lit 286 :: nat_lit 294 :: nat_lit 295 :: nat_lit 296 :: nat_lit 304 :: nat_lit 305 :: nat_lit 311 :: nat_lit 312 :: nat_lit 318 :: nat_lit 319 :: nat_lit 323 :: nat_lit 324 :: nat_lit 328 :: nat_lit 329 :: nat_lit 335 :: nat_lit 336 :: nat_lit 342 :: nat_lit 343 :: nat_lit 349 :: nat_lit 350 :: nat_lit 354 :: nat_lit 355 :: nat_lit 359 :: nat_lit 360 :: []
end
section
noncomputable def vw : Program := view PySem.Challenge.pw_pb0257_01 [0, 2, 3, 4, 5, 6, 8, 9, 11, 13, 15, 16, 17, 18, 19, 20, 21, 22, 23, 24]
theorem addrs_eq : ∀ P, addrs = (heap P).map (·.1) := fun _ => rfl
noncomputable abbrev hk : Hook := kHook heap addrs addrs_eq
noncomputable abbrev lrow : RowW := PySem.Challenge.rw_pb0257_01.row.toRowW
theorem top0 (w : World) (os : OsState) : Option.map (fun s => (openSeen vw [Str.ofString "LedgerError", Str.ofString "Token"] (importedModules lrow.prog.main.body) (fun s => xlAt vw [] s && recOk (RowW.records lrow) s) true s, Hook.obs hk s))
    (topFrom treeTable lrow.prog w 4468 ⟨boot_heap w.params, #[], boot_drawn, boot_toks, os⟩) = some (openGood vw [Str.ofString "LedgerError", Str.ofString "Token"], Hook.val hk w) := by
  unfold topFrom
  rw [PySem.W.Fast.te4187177175401517315, PySem.W.Fast.te5923862056798008813, PySem.W.Fast.te14082659384304107361, PySem.W.Fast.te14364793385576792824, PySem.W.Fast.te8920871248978507458]
  kernel_rfl
end
section
theorem left : LeftO lrow.prog vw [Str.ofString "LedgerError", Str.ofString "Token"] (fun s => xlAt vw [] s && recOk (RowW.records lrow) s) (Hook.obs hk) (Hook.val hk) 4468 := by
  intro w
  obtain ⟨s, e, e'⟩ := Option.map_eq_some_iff.mp (boot_open (p := lrow.prog) (N := 4468) (by kernel_rfl) (by kernel_rfl) (fun s => by kernel_rfl) w)
  obtain ⟨h, gs, d, k, os⟩ := s
  simp only [Prod.mk.injEq] at e'
  obtain ⟨rfl, rfl, rfl, rfl⟩ := e'
  have h0 := top0 w os
  unfold openEnds
  rw [e, Option.bind_some]
  exact h0
end
section
theorem said : PySem.Challenge.rw_pb0257_01.wellSaid = true := by
  unfold OpenLaw.wellSaid
  repeat' (with_reducible refine look_both ?_ ?_)
  all_goals (try unfold OpenRow.wellSaid OpenRow.partSaid looksOpen)
  all_goals (repeat' (with_reducible refine look_both ?_ ?_))
  all_goals (repeat (first | rewrite [PySem.W.Fast.te11788848310118352699] | rewrite [PySem.W.Fast.te2368527892694137696] | rewrite [PySem.W.Fast.te9807087744658564304] | rewrite [PySem.W.Fast.te12862048085361865435] | rewrite [PySem.W.Fast.te8377067652309620493] | rewrite [PySem.W.R.allR_eq] | rewrite [PySem.W.Fast.te18344453789297297638] | rewrite [PySem.W.Fast.te3471404346716756564] | rewrite [PySem.W.Fast.sDec_eq] | rewrite [PySem.W.Fast.te14412699480532031325] | rewrite [PySem.W.Fast.te8326940854005059898] | rewrite [PySem.W.Fast.te5923862056798008813] | rewrite [PySem.W.Fast.te17691160309236699985] | rewrite [PySem.W.R.filterR_eq] | rewrite [PySem.W.Fast.te13343964577679436407] | rewrite [PySem.W.Fast.te17119622794617984870] | rewrite [PySem.W.Fast.te17868728402115742887] | rewrite [PySem.W.Fast.te10501279942588096481] | rewrite [PySem.W.Fast.te8179353310426384613] | rewrite [PySem.W.Fast.te797321630700447069] | rewrite [PySem.W.Fast.te9572597257264208301] | rewrite [PySem.W.Fast.te9558739934217749035] | rewrite [PySem.W.Fast.te16286561074155671207] | rewrite [PySem.W.Fast.named_eq] | rewrite [PySem.W.Fast.te6984425678791042302] | rewrite [PySem.W.Fast.te17095254045102204799] | rewrite [PySem.W.Fast.te12879404354523853263] | rewrite [PySem.W.Fast.te482687673346738481] | rewrite [PySem.W.Fast.te10792542408131684335] | rewrite [PySem.W.Fast.te7723801398212525404] | rewrite [PySem.W.Fast.te12749700546528644094]))
  all_goals kernel_rfl
end
section
theorem hd (hw : lrow.promised) (said : PySem.Challenge.rw_pb0257_01.wellSaid = true) (pos : Pos)
    (hdef : defOf vw (Str.ofString "law") = some (⟨Str.ofString "law", p360, b360, s360, pos⟩, []))
    (walk : WalkO vw [Str.ofString "LedgerError", Str.ofString "Token"] (XL vw []) hk.says lrow ⟨Str.ofString "law", p360, b360, s360, pos⟩ [] fun f vs => PySem.call f vs) : PySem.Challenge.rw_pb0257_01.Holds := by
  refine holds_law said fun sd => ?_
  refine holds_open (q := vw) (loose := [Str.ofString "LedgerError", Str.ofString "Token"]) (Xt := fun s => xlAt vw [] s && recOk (RowW.records lrow) s) (XP := XL vw []) (Yf := Hook.obs hk) (Ya := Hook.val hk) (YP := Hook.says hk) (N := 4468) left (Hook.of hk) (Hook.keeps hk) (fun s e => xl_of s (Bool.and_eq_true_iff.mp e).1) XL.keeps hdef (by rfl) (by rfl) (fun s e => recFacts_of (Bool.and_eq_true_iff.mp e).2) (by rfl) sd (by decide +kernel) ⟨rfl, rfl, rfl, rfl, rfl, by decide +kernel⟩ hw walk
end
section
theorem promised : lrow.promised := ⟨[.list [.int 3, .int 1]], by decide +kernel, by decide +kernel⟩
end
section
noncomputable abbrev Led := List (Addr × Obj)
noncomputable abbrev S (x : String) : PySem.Str := PySem.Str.ofString x
noncomputable abbrev tokDict (h1 h2 h3 h4 : Int) (t1 t2 t3 t4 u1 u2 : Tok) (kind worth : PySem.Str) (q : Addr) : Obj :=
  dictOf [⟨h1, .str (S "kind") t1, .str kind u1⟩, ⟨h2, .str (S "worth") t2, .str worth u2⟩, ⟨h3, .str (S "at") t3, .ref q⟩, ⟨h4, .str (S "is_in_a") t4, .bool false⟩] 4
noncomputable abbrev rdDict (h1 h2 h3 : Int) (t1 t2 t3 : Tok) (Lt Dn : Addr) (p : Int) (tp : Tok) : Obj :=
  dictOf [⟨h1, .str (S "tokens") t1, .ref Lt⟩, ⟨h2, .str (S "at") t2, .int p tp⟩, ⟨h3, .str (S "named") t3, .ref Dn⟩] 3
noncomputable abbrev tupObj (l : List Value) (n : Nat) : Obj := { cls := .type "tuple", data := .seq l.toArray n }
noncomputable def ColdAt (h : Heap) (cold : Led) : Prop := ∀ q ∈ cold, h.get? q.1 = some q.2
theorem ColdAt.keeps {h h' : Heap} {cold : Led} (hC : ColdAt h cold) (k : ∀ b o, h.get? b = some o → h'.get? b = some o) : ColdAt h' cold := fun q hq => k _ _ (hC q hq)
theorem cold_now {h₀ h : Heap} {L : Addr} {m : PySem.Str → Option Value} {cold : Led} (F : Fr h₀ L h m) (hC : ColdAt h₀ cold) : ColdAt h cold := hC.keeps F.keep
theorem cold_inst {h₀ h : Heap} {L x C dx : Addr} {m : PySem.Str → Option Value} {cold : Led} {od : Obj} {sl : Array (Option Value)} (F : Fr h₀ L h m) (hC : ColdAt h₀ cold) (h1 : (x, (⟨.ref C, some dx, .plain, sl⟩ : Obj)) ∈ cold) (h2 : (dx, od) ∈ cold) :
    InstAt h x ⟨.ref C, some dx, .plain, sl⟩ C (some od) := ⟨F.keep _ _ (hC _ h1), rfl, rfl, F.keep _ _ (hC _ h2)⟩
theorem warm_inst {h₀ h : Heap} {L x C dx : Addr} {m : PySem.Str → Option Value} {cold news : Led} {od : Obj} {sl : Array (Option Value)} (F : Fr h₀ L h m) (N : News h₀ L h news) (hC : ColdAt h₀ cold) (h1 : (x, (⟨.ref C, some dx, .plain, sl⟩ : Obj)) ∈ cold) (h2 : (dx, od) ∈ news) :
    InstAt h x ⟨.ref C, some dx, .plain, sl⟩ C (some od) := ⟨F.keep _ _ (hC _ h1), rfl, rfl, (N _ h2).1⟩
noncomputable def OffA (l : Led) (a : Addr) : Prop := ∀ q ∈ l, q.1 ≠ a
noncomputable def Off (a b : Led) : Prop := ∀ q ∈ a, ∀ p ∈ b, q.1 ≠ p.1
section
variable {prog : Program} {w : World} {A A₀ : Around} {E : Value → Shared → Prop} {s : Shared} {K : Frag} {h₀ base : Heap} {L : Addr} {m mg mb : PySem.Str → Option Value} {hot news cold : Led} {p : Program} {loose : List PySem.Str} {mean : ExcName → Option Value}
theorem OffA.one {l : Led} {a : Addr} {o : Obj} (h : OffA l a) : Off l [(a, o)] := fun q hq p hp => by rw [List.mem_singleton.mp hp]; exact h q hq
theorem OffA.nil {a : Addr} : OffA [] a := fun _ h => nomatch h
theorem OffA.cons {a : Addr} {q : Addr × Obj} {l : Led} (h : q.1 ≠ a) (r : OffA l a) : OffA (q :: l) a := fun x hx => by
  rcases List.mem_cons.mp hx with rfl | hx
  · exact h
  · exact r x hx
theorem Off.nil {l : Led} : Off l [] := fun _ _ _ h => nomatch h
theorem news_sub {l all : Led} (N : News h₀ L s.heap all) (hs : ∀ q ∈ l, q ∈ all) : News h₀ L s.heap l := fun q hq => N q (hs q hq)
theorem news_cons {l all : Led} {q : Addr × Obj} (N : News h₀ L s.heap all) (hq : q ∈ all) (r : News h₀ L s.heap l) : News h₀ L s.heap (q :: l) := fun x hx => by
  rcases List.mem_cons.mp hx with rfl | hx
  · exact N _ hq
  · exact r _ hx
/-- a def entered on a part of the ledger: the rest stands still -/
theorem code_split {env : Env} {outer : List Env} {R : Result → Shared → Prop} {name qual : PySem.Str} {params : Arguments} {body : List Stmt} {scope : Scope} {dV kV doc pm cdv ct oc : Value} {an od : Option Addr} {osl : Array (Option Value)} {f : Addr} {args : Args} {binds : List (PySem.Str × Value)}
    (B : Below A₀ base outer h₀) (F : Fr h₀ L s.heap m) (X₀ : K.In h₀) (N : News h₀ L s.heap hot) (hC : ColdAt s.heap cold) (dc : Off cold hot) (T : Top p loose mean mg mb h₀) (hA : A.frames = some (env :: outer)) (hf : env.frame = some L) (hke : env.scope.kind = .function)
    (ho : K.lookup f = some ⟨oc, od, .func (fnOf name qual params body scope dV kV doc pm an cdv ct), osl⟩) (hcd : codeIn K cdv qual = true) (hroom : A.depth < recursionLimit)
    (hbind : BindsTo s (fnOf name qual params body scope dV kV doc pm an cdv ct) args binds) (hloc : ∀ y ∈ binds, scope.names.lookup y.1 = some .local)
    (h : ∀ g L' h₁, Fr h₀ L g m → Fr g L' h₁ (fun y => binds.reverse.lookup y) → News g L' h₁ hot → ColdAt g cold → Below A base (env :: outer) g → K.In g → Top p loose mean mg mb g →
      wpAny (model prog w) (A.deeper (envX qual scope L' f cdv [])) (execs body (envX qual scope L' f cdv []))
        (fun fl s' => LeaveK h₀ L m g R (match fl with | .ret v => v | _ => .none) s')
        (fun e s' => wpAny (model prog w) (A.deeper (envX qual scope L' f cdv [])) (leaving (envX qual scope L' f cdv []) e) (fun _ s'' => R (.error e) s'') (fun e' s'' => R (.error e') s'') s')
        { s with heap := h₁, toks := s.toks + binds.length })
    (hco : scope.isCoroutine = false) (hgen : scope.isGenerator = false) (hk : scope.kind = .function)
    (hcell : ∀ x ∈ scope.names, x.2 ≠ .cell) : codeAny (model prog w) A (.call (.ref f) args) R s := by
  obtain ⟨FG, BG, st, lv⟩ := groundX (R := R) B F N hA hf hke
  have X := X₀.keeps F.keep
  refine codeAny_call_def (fd := fnX name qual params body scope [] dV kV doc pm an cdv ct) (body := body) (binds := binds) hroom (X _ _ ho) rfl (T.nolimit.keeps F.keep) (codeRec_of X hcd) rfl hbind hcell hloc (fun h₁ hns hk₁ => ?_) hco hgen hk
  refine wpAny_mono (h _ s.heap.objs.size h₁ FG ⟨hns, fun b o e => hk₁ b o (of_hideAll _ e), Nat.le_of_eq (hideAll_size _ _)⟩
    (fun q hq => ⟨hk₁ _ _ (N q hq).1, Nat.ne_of_lt (Heap.lt_size (N q hq).1), hideAll_none _ (List.mem_map_of_mem hq)⟩) (fun q hq => hideAll_get _ (hC q hq) fun hm => ?_) BG (X₀.keeps st) (T.keeps st)) (fun fl s' hl => lv _ _ hl) fun _ _ y => y
  obtain ⟨r, hr, e⟩ := List.mem_map.mp hm
  exact dc q hq r hr e.symm
end
/-- a call's end: what was handed back, on a ledger that lies apart from all that stood still -/
noncomputable def EndR (g : Heap) (s : Shared) (Post : Led → Value → Prop) (r : Result) (s' : Shared) : Prop := match r with
  | .ok (.ret v) => ∃ tl h' tk L' m', s' = { s with heap := h', toks := tk } ∧ Fr g L' h' m' ∧ News g L' h' tl ∧ Post tl v
  | _ => False
theorem EndR.ret {g : Heap} {s : Shared} {Post : Led → Value → Prop} {v : Value} {h' : Heap} {tk : Nat} {L' : Addr} {m' : PySem.Str → Option Value} {tl : Led} (F : Fr g L' h' m') (N : News g L' h' tl) (P : Post tl v) : EndR g s Post (.ok (.ret v)) { s with heap := h', toks := tk } :=
  ⟨tl, h', tk, L', m', rfl, F, N, P⟩
theorem EndR.sub {g : Heap} {s : Shared} {Post : Led → Value → Prop} {v : Value} {h' : Heap} {tk : Nat} {L' : Addr} {m' : PySem.Str → Option Value} (tl : Led) {all : Led} (F : Fr g L' h' m') (N : News g L' h' all) (hs : ∀ q ∈ tl, q ∈ all) (P : Post tl v) : EndR g s Post (.ok (.ret v)) { s with heap := h', toks := tk } :=
  ⟨tl, h', tk, L', m', rfl, F, fun q hq => N q (hs q hq), P⟩
theorem sub_nil {l : Led} : ∀ q ∈ ([] : Led), q ∈ l := fun _ h => nomatch h
theorem sub_cons {l r : Led} {x : Addr × Obj} (h : x ∈ l) (hr : ∀ q ∈ r, q ∈ l) : ∀ q ∈ x :: r, q ∈ l := fun q hq => by
  rcases List.mem_cons.mp hq with rfl | hq
  · exact h
  · exact hr q hq
section
variable {w : World} {A₀ : Around} {Q E : Value → Shared → Prop} {s : Shared} {h₀ base : Heap} {L : Addr} {m mg mb : PySem.Str → Option Value} {hot news cold : Led} {p : Program} {loose : List PySem.Str} {mean : ExcName → Option Value}
  {dp un : Nat} {gd : Option (List Code)} {cn : PySem.Str} {cs : Scope} {a : Addr} {ccd : Value} {cl : List (PySem.Str × Addr)} {outer : List Env}
theorem ct_enter {Post : Led → Value → Prop} {name qual : PySem.Str} {params : Arguments} {body : List Stmt} {scope : Scope} {dV kV doc pm cdv ct oc : Value} {an od : Option Addr} {osl : Array (Option Value)} {f : Addr} {vs : List Value} (binds : List (PySem.Str × Value))
    (B : Below A₀ base outer h₀) (F : Fr h₀ L s.heap m) (X₀ : (Mine.heap w.params).In h₀) (N : News h₀ L s.heap (hot ++ news)) (dn : Off news hot) (hC : ColdAt s.heap cold) (dc : Off cold hot) (T : Top p loose mean mg mb h₀) (hke : cs.kind = .function)
    (ret : ∀ r tl h' tk', Fr h₀ L h' m → News h₀ L h' (tl ++ news) → Off (news ++ cold) tl → Post tl r → Q r { s with heap := h', toks := tk' })
    (ho : (Mine.heap w.params).lookup f = some ⟨oc, od, .func (fnOf name qual params body scope dV kV doc pm an cdv ct), osl⟩) (hcd : codeIn (Mine.heap w.params) cdv qual = true) (hroom : (ktrTop dp un gd cn cs L a ccd cl outer).depth < recursionLimit)
    (hbind : BindsTo s (fnOf name qual params body scope dV kV doc pm an cdv ct) ⟨vs, []⟩ binds) (hloc : ∀ y ∈ binds, scope.names.lookup y.1 = some .local)
    (hco : scope.isCoroutine = false) (hgen : scope.isGenerator = false) (hk : scope.kind = .function) (hcell : ∀ x ∈ scope.names, x.2 ≠ .cell)
    (h : ∀ g L' h₁, Fr h₀ L g m → Fr g L' h₁ (fun y => binds.reverse.lookup y) → News g L' h₁ hot → ColdAt g cold → Below (ktrTop dp un gd cn cs L a ccd cl outer) base (envX cn cs L a ccd cl :: outer) g → (Mine.heap w.params).In g → Top p loose mean mg mb g →
      wpAny (model PySem.Challenge.rw_pb0257_01.row.prog w) ((ktrTop dp un gd cn cs L a ccd cl outer).deeper (envX qual scope L' f cdv [])) (execs body (envX qual scope L' f cdv []))
        (fun fl s' => LeaveK h₀ L m g (EndR g s Post) (match fl with | .ret v => v | _ => .none) s')
        (fun e s' => wpAny (model PySem.Challenge.rw_pb0257_01.row.prog w) ((ktrTop dp un gd cn cs L a ccd cl outer).deeper (envX qual scope L' f cdv [])) (leaving (envX qual scope L' f cdv []) e) (fun _ s'' => EndR g s Post (.error e) s'') (fun e' s'' => EndR g s Post (.error e') s'') s')
        { s with heap := h₁, toks := s.toks + binds.length }) :
    wpAny (model PySem.Challenge.rw_pb0257_01.row.prog w) (ktrTop dp un gd cn cs L a ccd cl outer) (call (.ref f) vs) Q E s := by
  have N1 : News h₀ L s.heap hot := fun q hq => N q (List.mem_append_left _ hq)
  have N2 : News h₀ L s.heap news := fun q hq => N q (List.mem_append_right _ hq)
  have hC2 : ColdAt s.heap (news ++ cold) := fun q hq => (List.mem_append.mp hq).elim (fun hq => (N2 q hq).1) (hC q)
  have dc2 : Off (news ++ cold) hot := fun q hq => (List.mem_append.mp hq).elim (dn q) (dc q)
  refine wpAny_call (codeAny_mono (code_split (cold := news ++ cold) (R := fun r s' => ∃ g : Heap, h₀.StaysIn g ∧ (∃ o, g.get? L = some o) ∧ ColdAt g (news ++ cold) ∧ EndR g s Post r s' ∧ Fr h₀ L s'.heap m) B F X₀ N1 hC2 dc2 T (env := envX cn cs L a ccd cl) rfl rfl hke ho hcd hroom hbind hloc ?_ hco hgen hk hcell) ?_)
  · intro g L' h₁ FG F' N' C' B' X' T'
    obtain ⟨oL, _, _, hL, _⟩ := FG.ns
    refine wpAny_mono (h g L' h₁ FG F' N' (fun q hq => C' q (List.mem_append_right _ hq)) B' X' T') (fun fl s' hl => ?_) (fun e s' he => ?_)
    · obtain ⟨L₂, m₂, n₂, F₂, M₂, k⟩ := hl
      exact ⟨L₂, m₂, n₂, F₂, M₂, fun kF kN => ⟨g, FG.keep, ⟨_, hL⟩, C', k kF kN, kF⟩⟩
    · refine wpAny_mono he (fun _ s'' z => ?_) (fun _ s'' z => ?_) <;> exact z.elim
  · intro r s' hr
    obtain ⟨g, st, ⟨oL, hL⟩, C', e, kF⟩ := hr
    cases r with
    | error e' => exact e.elim
    | ok f =>
      cases f with
      | ret v =>
        obtain ⟨tl, h', tk, L', m', rfl, F', N', P⟩ := e
        refine ret v tl h' tk kF (fun q hq => ?_) (fun q hq r hr ee => ?_) P
        · rcases List.mem_append.mp hq with hq | hq
          · refine ⟨(N' q hq).1, fun ee => ?_, ?_⟩
            · have := (N' q hq).2.2; rw [ee, hL] at this; cases this
            · cases z : h₀.get? q.1 with
              | none => rfl
              | some o => have := (N' q hq).2.2; rw [st _ _ z] at this; cases this
          · exact ⟨F'.keep _ _ (C' q (List.mem_append_left _ hq)), (N2 q hq).2⟩
        · have := (N' r hr).2.2; rw [← ee, C' q hq] at this; cases this
      | _ => exact e.elim
end
structure TokIs (rest : Led) (v : Value) (kind worth : PySem.Str) (i : Nat) : Prop where
  is : ∃ (a d q : Addr) (h1 h2 h3 h4 : Int) (t1 t2 t3 t4 u1 u2 u3 u4 : Tok) (n : Nat), v = .ref a ∧ (a, instObj 296 d) ∈ rest ∧ (d, tokDict h1 h2 h3 h4 t1 t2 t3 t4 u1 u2 kind worth q) ∈ rest ∧
    (q, tupObj [.int ((i : Int) + 1) u3, .int 12 u4] n) ∈ rest
structure ToksAre (rest : Led) (vs : List Value) (ws : List (PySem.Str × PySem.Str)) : Prop where
  len : vs.length = ws.length
  small : vs.length ≤ 1000
  get : ∀ i v, vs[i]? = some v → ∃ kd wd, ws[i]? = some (kd, wd) ∧ TokIs rest v kd wd i
theorem TokIs.mono {r r' : Led} {v : Value} {kd wd : PySem.Str} {i : Nat} (h : TokIs r v kd wd i) (hs : ∀ q ∈ r, q ∈ r') : TokIs r' v kd wd i := by
  obtain ⟨a, d, q, h1, h2, h3, h4, t1, t2, t3, t4, u1, u2, u3, u4, n, e, m1, m2, m3⟩ := h
  exact ⟨a, d, q, h1, h2, h3, h4, t1, t2, t3, t4, u1, u2, u3, u4, n, e, hs _ m1, hs _ m2, hs _ m3⟩
theorem ToksAre.mono {r r' : Led} {vs : List Value} {ws : List (PySem.Str × PySem.Str)} (h : ToksAre r vs ws) (hs : ∀ q ∈ r, q ∈ r') : ToksAre r' vs ws :=
  ⟨h.len, h.small, fun i v e => let ⟨kd, wd, e1, e2⟩ := h.get i v e; ⟨kd, wd, e1, e2.mono hs⟩⟩
/-- the reader but for its dict -/
structure RdC (cold : Led) (R dR Lt : Addr) (ws : List (PySem.Str × PySem.Str)) : Prop where
  inst : (R, instObj 266 dR) ∈ cold
  toks : ∃ vs n, (Lt, listOf vs.toArray n) ∈ cold ∧ ToksAre cold vs ws
theorem RdC.mono {r r' : Led} {R dR Lt : Addr} {ws : List (PySem.Str × PySem.Str)} (h : RdC r R dR Lt ws) (hs : ∀ q ∈ r, q ∈ r') : RdC r' R dR Lt ws :=
  let ⟨vs, n, a, b⟩ := h.toks; ⟨hs _ h.inst, vs, n, hs _ a, b.mono hs⟩
noncomputable def wordAt (ws : List (PySem.Str × PySem.Str)) (i : Nat) (x : PySem.Str) : Bool := match ws[i]? with
  | some (kd, wd) => kd == S "word" && wd == x
  | none => false
theorem wa1 {ws : List (PySem.Str × PySem.Str)} {pz k : Nat} {kd wd x : PySem.Str} (hw : ws[((pz : Int) + (k : Int)).toNat]? = some (kd, wd)) (h : (kd == PySem.Str.ofString "word") = true) : (wd == x) = wordAt ws (pz + k) x := by
  rw [show ((pz : Int) + (k : Int)).toNat = pz + k by omega] at hw
  unfold wordAt; rw [hw]; dsimp only; rw [h, Bool.true_and]
theorem wa2 {ws : List (PySem.Str × PySem.Str)} {pz k : Nat} {kd wd x : PySem.Str} (hw : ws[((pz : Int) + (k : Int)).toNat]? = some (kd, wd)) (h : (kd == PySem.Str.ofString "word") = false) : (kd == PySem.Str.ofString "word") = wordAt ws (pz + k) x := by
  rw [show ((pz : Int) + (k : Int)).toNat = pz + k by omega] at hw
  unfold wordAt; rw [hw]; dsimp only; rw [h, Bool.false_and]
theorem wa3 {rest : Led} {vs : List Value} {ws : List (PySem.Str × PySem.Str)} {pz k : Nat} {x : PySem.Str} (hT : ToksAre rest vs ws) (h : ¬ ((pz : Int) + (k : Int) < (vs.length : Int))) : false = wordAt ws (pz + k) x := by
  have := hT.len
  unfold wordAt
  rw [List.getElem?_eq_none (by omega)]
section
variable {prog : Program} {w : World} {A : Around} {E : Value → Shared → Prop} {s : Shared} {Q : Value → Shared → Prop} {h₀ : Heap} {L l : Addr} {m : PySem.Str → Option Value} {cold : Led} {vs : List Value} {n : Nat}
theorem cold_list (F : Fr h₀ L s.heap m) (hC : ColdAt h₀ cold) (hm : (l, listOf vs.toArray n) ∈ cold) : s.heap.IsList l vs.toArray := ⟨_, F.keep _ _ (hC _ hm), rfl, _, rfl⟩
theorem m_len (F : Fr h₀ L s.heap m) (hC : ColdAt h₀ cold) (hm : (l, listOf vs.toArray n) ∈ cold) (hz : vs.length ≤ 16384) (h : Q (.int (vs.length : Int) (s.toks + 1)) { s with toks := s.toks + 1 + 1 }) :
    wpAny (model prog w) A (call (.builtin "len") [.ref l]) Q E s := kun_lenL (cold_list F hC hm) (by simp) (by omega) h
theorem m_item {value slice : PySem.Expr} {k : Int} {u : Tok} (F : Fr h₀ L s.heap m) (hC : ColdAt h₀ cold) (hm : (l, listOf vs.toArray n) ∈ cold) (h0 : 0 ≤ k) (hz : vs.length ≤ 16384) (hk : k < (vs.length : Int))
    (h : ∀ v, vs[k.toNat]? = some v → Q v s)
    (hs : subscripted slice false (.ref l) (.int k u) = operate [.ref l, .int k u] (getItem (.ref l) (.int k u)) := by with_unfolding_all rfl) :
    wpAny (model prog w) A (subscriptTail value slice (.ref l) (.int k u)) Q E s :=
  have hl : k.toNat < vs.length := by omega
  item_litK (cold_list F hC hm) h0 (by omega) (List.getElem?_eq_getElem hl) (h _ (List.getElem?_eq_getElem hl)) hs
end
end
local macro_rules | `(tactic| k_mem) => `(tactic| first | with_reducible assumption | with_reducible exact List.mem_cons_self | (with_reducible refine' List.mem_cons_of_mem _ ?_; k_mem))
local macro_rules | `(tactic| ktr_room) => `(tactic| ((try simp only [depth_under_make, depth_under_kw, depth_in1, depth_deeper, depth_caller]); first | ((try dsimp only [ktrTop]); omega) | decide))
local macro_rules | `(tactic| k_room) => `(tactic| ktr_room)
local macro_rules | `(tactic| ktr_units) => `(tactic| ((try simp only [units_in1, units_deeper, Around.mark_units, units_caller]); (try dsimp only [ktrTop]); omega))
local macro_rules | `(tactic| k_inst) => `(tactic| first
  | with_reducible refine' cold_inst (by k_asm) (by k_asm) (by assumption) (by assumption)
  | with_reducible refine' warm_inst (by k_asm) (by k_asm) (by k_asm) (by assumption) (by k_mem)
  | refine' InstAt.of_news (by k_asm) (by k_mem) (by k_mem) | refine' InstAt.of_K (by first | assumption | exact Frag.In.keeps (by k_asm) (Fr.keep (by k_asm))) (by k_is) (by k_is))
local macro_rules | `(tactic| k_enter) => `(tactic|
  (refine' code_def (by k_asm) (by k_asm) (by k_asm) (by k_asm) (by k_asm) rfl rfl rfl (by k_is) (by k_is) (by k_room) (by first | exact BindsTo.of_eq rfl | exact binds_K (by k_in) rfl (by k_is) rfl rfl rfl) (by exact locs rfl) ?_ (by exact rfl) (by exact rfl) (by exact rfl) (by decide); k_whole; intro g' L' h' FG' F' N' B' X' T'; (try dsimp only); (try (have hC' := ColdAt.keeps (by assumption) (Fr.keep FG'))); (try k_fold)))
section
section
variable {w : World} {A₀ : Around} {Q E : Value → Shared → Prop} {s : Shared} {h₀ base : Heap} {L : Addr} {m mg mb : PySem.Str → Option Value} {hot news cold cold' : Led} {p : Program} {loose : List PySem.Str} {mean : ExcName → Option Value}
  {dp un : Nat} {gd : Option (List Code)} {cn : PySem.Str} {cs : Scope} {a : Addr} {ccd : Value} {cl : List (PySem.Str × Addr)} {outer : List Env}
  {R dR Lt Dn : Addr} {h1 h2 h3 : Int} {t1 t2 t3 tp : Tok} {pz k : Nat} {ki : Int} {tk : Tok} {x : PySem.Str} {tx : Tok} {ws : List (PySem.Str × PySem.Str)}
theorem word_ahead_ct (B : Below A₀ base outer h₀) (F : Fr h₀ L s.heap m) (X : (Mine.heap w.params).In h₀) (N : News h₀ L s.heap news) (T : Top p loose mean mg mb h₀) (hk : cs.kind = .function)
    (hC : ColdAt s.heap cold) (hR : RdC cold R dR Lt ws) (hD : (dR, rdDict h1 h2 h3 t1 t2 t3 Lt Dn pz tp) ∈ cold) (hki : ki = (k : Int)) (hd : dp + 3 < recursionLimit) (hu : un + 24 < cLine)
    (ret : ∀ h' tk', Fr h₀ L h' m → News h₀ L h' news → Q (.bool (wordAt ws (pz + k) x)) { s with heap := h', toks := tk' }) :
    wpAny (model PySem.Challenge.rw_pb0257_01.row.prog w) (ktrTop dp un gd cn cs L a ccd cl outer) (call (.ref 28) [.ref R, .int ki tk, .str x tx]) Q E s := by
  revert X
  k_fill
  w_on
  intro X
  subst hki
  obtain ⟨hI, vs, n, hL, hT⟩ := hR
  refine' ct_enter (hot := []) (news := news) (cold := cold) (Post := fun tl r => r = .bool (wordAt ws (pz + k) x)) [(S "reader", .ref R), (S "ahead", .int k tk), (S "word", .str x tx)] B F X N ?dn hC ?dc T hk ?ret ?ho ?hcd ?hroom ?hbind ?hloc ?c1 ?c2 ?c3 ?c4 ?_
  case dn => intro _ _ _ h; cases h
  case dc => intro _ _ _ h; cases h
  case ret => rintro r tl h' tk' F' N' _ rfl; exact ret h' tk' F' fun q hq => N' q (List.mem_append_right _ hq)
  case ho => k_is
  case hcd => k_is
  case hroom => k_room
  case hbind => exact BindsTo.of_eq rfl
  case hloc => exact locs rfl
  case c1 => exact rfl
  case c2 => exact rfl
  case c3 => exact rfl
  case c4 => decide
  clear ret N hC
  intro g' L' h' FG' F' N' hC' B' X' T'
  try dsimp only
  k_fold
  repeat' (first | (k_unfold; (try dsimp only)) | (k_end; first | kc_close | wrow_close) | ((with_reducible show wpAny _ _ (call (Value.builtin _) [Value.ref _]) _ _ _); (with_reducible rename ToksAre _ _ _ => hTk); k_dflt (with_reducible refine' m_len (by k_asm) (by k_asm) (by with_reducible assumption) (Nat.le_trans (ToksAre.small hTk) (by decide)) ?_)) | ((with_reducible show wpAny _ _ (subscriptTail _ _ (Value.ref _) (Value.int _ _)) _ _ _); (with_reducible rename ToksAre _ _ _ => hTk); (with_unfolding_all refine' m_item (by k_asm) (by k_asm) (by with_reducible assumption) (by omega) (Nat.le_trans (ToksAre.small hTk) (by decide)) (by first | assumption | omega) ?_ (by with_unfolding_all rfl)); intro v' hv'; (obtain ⟨kd', wd', hw', ⟨a', d', q', h1', h2', h3', h4', t1', t2', t3', t4', u1', u2', u3', u4', n', hv0', hm1', hm2', hm3'⟩⟩ := ToksAre.get hTk _ _ hv'); subst hv0') | walk1 | (dsimp only; first | ((with_reducible show wpAny _ _ (call (Value.builtin _) [Value.ref _]) _ _ _); (with_reducible rename ToksAre _ _ _ => hTk); k_dflt (with_reducible refine' m_len (by k_asm) (by k_asm) (by with_reducible assumption) (Nat.le_trans (ToksAre.small hTk) (by decide)) ?_)) | ((with_reducible show wpAny _ _ (subscriptTail _ _ (Value.ref _) (Value.int _ _)) _ _ _); (with_reducible rename ToksAre _ _ _ => hTk); (with_unfolding_all refine' m_item (by k_asm) (by k_asm) (by with_reducible assumption) (by omega) (Nat.le_trans (ToksAre.small hTk) (by decide)) (by first | assumption | omega) ?_ (by with_unfolding_all rfl)); intro v' hv'; (obtain ⟨kd', wd', hw', ⟨a', d', q', h1', h2', h3', h4', t1', t2', t3', t4', u1', u2', u3', u4', n', hv0', hm1', hm2', hm3'⟩⟩ := ToksAre.get hTk _ _ hv'); subst hv0') | walk1) | (leave1; walk_say "STEP leave1"; try dsimp only) | fail "no step")
  all_goals (refine EndR.ret (by assumption) (by assumption) (congrArg Value.bool ?_))
  · exact wa1 (by assumption) (by assumption)
  · exact wa2 (by assumption) (by assumption)
  · exact wa3 (by assumption) (by assumption)
end
end
section
section
open PySem.Builtin
theorem tm_0 (l : Addr) (v : Value) (n : Nat) (d : Option Addr) (sl : Array (Option Value)) (u : Tok) :
    Meets (Builtin.«tuple.__mul__» ⟨[.ref l, .int 0 u], []⟩) (fun _ R s => s.heap.get? l = some { cls := .type "tuple", dict := d, data := .seq #[v] n, slots := sl } ∧ R (.ok (.ret (Value.ref s.heap.objs.size))) { s with heap := s.heap.push { cls := Value.type "tuple", data := Data.seq #[] }, toks := s.toks }) :=
  .of_wp fun prog w A R s h => by
    obtain ⟨hp, g, d, tk, os⟩ := s; obtain ⟨hl, h⟩ := h
    wp_walk; exact ⟨_, rfl, h⟩
theorem tm_1 (l : Addr) (v : Value) (n : Nat) (d : Option Addr) (sl : Array (Option Value)) (u : Tok) :
    Meets (Builtin.«tuple.__mul__» ⟨[.ref l, .int 1 u], []⟩) (fun _ R s => s.heap.get? l = some { cls := .type "tuple", dict := d, data := .seq #[v] n, slots := sl } ∧ R (.ok (.ret (Value.ref l))) s) :=
  .of_wp fun prog w A R s h => by
    obtain ⟨hp, g, d, tk, os⟩ := s; obtain ⟨hl, h⟩ := h
    wp_walk; exact ⟨_, rfl, h⟩
theorem tm_2 (l : Addr) (v : Value) (n : Nat) (d : Option Addr) (sl : Array (Option Value)) (u : Tok) :
    Meets (Builtin.«tuple.__mul__» ⟨[.ref l, .int 2 u], []⟩) (fun _ R s => s.heap.get? l = some { cls := .type "tuple", dict := d, data := .seq #[v] n, slots := sl } ∧ R (.ok (.ret (Value.ref s.heap.objs.size))) { s with heap := s.heap.push { cls := Value.type "tuple", data := Data.seq #[v, v] }, toks := s.toks }) :=
  .of_wp fun prog w A R s h => by
    obtain ⟨hp, g, d, tk, os⟩ := s; obtain ⟨hl, h⟩ := h
    wp_walk; exact ⟨_, rfl, h⟩
theorem tm_3 (l : Addr) (v : Value) (n : Nat) (d : Option Addr) (sl : Array (Option Value)) (u : Tok) :
    Meets (Builtin.«tuple.__mul__» ⟨[.ref l, .int 3 u], []⟩) (fun _ R s => s.heap.get? l = some { cls := .type "tuple", dict := d, data := .seq #[v] n, slots := sl } ∧ R (.ok (.ret (Value.ref s.heap.objs.size))) { s with heap := s.heap.push { cls := Value.type "tuple", data := Data.seq #[v, v, v] }, toks := s.toks }) :=
  .of_wp fun prog w A R s h => by
    obtain ⟨hp, g, d, tk, os⟩ := s; obtain ⟨hl, h⟩ := h
    wp_walk; exact ⟨_, rfl, h⟩
theorem tm_rmul (a : Int) (t : Tok) (l : Addr) (items : Array Value) (n : Nat) (d : Option Addr) (sl : Array (Option Value)) :
    Meets (Builtin.«int.__rmul__» ⟨[.int a t, .ref l], []⟩) (fun _ R s => s.heap.get? l = some { cls := .type "tuple", dict := d, data := .seq items n, slots := sl } ∧ R (.ok (.ret Value.notImplemented)) s) :=
  .of_wp fun prog w A R s h => by obtain ⟨hp, g, d, tk, os⟩ := s; obtain ⟨hl, h⟩ := h; wp_walk; exact ⟨_, rfl, h⟩
theorem tm_noFill : fillsNumberSlot (.type "tuple") "mul" = pure false :=
  PySem.fillsNumberSlot_seq (id := "tuple.__mul__") (r := some (.builtin "tuple.__rmul__")) PySem.F.slot_tuple_mul.lookup (by decide +kernel) PySem.F.slot_tuple_rmul.lookup (by decide +kernel)
theorem tm_repeat : seqRepeat? (.type "tuple") = pure (some (.builtin "tuple.__mul__")) := by
  unfold seqRepeat?
  rw [PySem.seqSlot_of (T := "tuple") (name := "__mul__") (id := "tuple.__mul__") PySem.F.slot_tuple_mul.lookup (by decide +kernel), PySem.seqSlot_of (T := "tuple") (name := "__rmul__") (id := "tuple.__rmul__") PySem.F.slot_tuple_rmul.lookup (by decide +kernel)]
  rfl
end
section
variable {prog : Program} {w : World} {A : Around} {E : Value → Shared → Prop} {s : Shared} {Q : Value → Shared → Prop} {h₀ : Heap} {L l : Addr} {m : PySem.Str → Option Value} {news : Led} {v : Value} {n : Nat} {u : Tok}
theorem tm_any {R' : Result → Shared → Prop} {x : Int} (ho : s.heap.get? l = some (tupObj [v] n))
    (hm : ∀ s', s'.heap.get? l = some (tupObj [v] n) → s' = s → wpAny (model prog w) A (call (.builtin "tuple.__mul__") [.ref l, .int x u]) Q E s') : wpAny (model prog w) A (binaryOp .Mult (.ref l) (.int x u)) Q E s := by
  refine PySem.wpAny_binaryOp_repeat_ref (T := "tuple") (U := "int") (by decide) ⟨_, ho, rfl⟩ (fun s' => PySem.typeIs_int s' x u) tm_noFill PySem.F.fills_int_mul PySem.F.slot_int_rmul tm_repeat PySem.F.slot_int_index.lookup
    (call_meets PySem.F.slot_int_rmul (PySem.typeIs_int s x u) PySem.F.entry_int_rmul (PySem.F.args_int_rmul_2 _ _) (tm_rmul x u l _ n _ _)
      ⟨ho, rfl, ⟨_, ho, rfl⟩, hm s ho rfl⟩)
theorem tup_mul0 {x : Int} (hx : x = 0) (F : Fr h₀ L s.heap m) (N : News h₀ L s.heap news) (hm : (l, tupObj [v] n) ∈ news)
    (h : ∀ D h', Fr h₀ L h' m → News h₀ L h' ((D, tupObj [] 0) :: news) → (∀ p ∈ news, p.1 < D) → Q (.ref D) { s with heap := h' }) : wpAny (model prog w) A (binaryOp .Mult (.ref l) (.int x u)) Q E s := by
  subst hx
  have ho := (N _ hm).1
  refine tm_any (R' := fun _ _ => True) ho fun s' ho' e => ?_
  subst e
  exact call_meets PySem.F.slot_tuple_mul ⟨_, ho, rfl⟩ PySem.F.entry_tuple_mul (PySem.F.args_tuple_mul_2 _ _) (tm_0 l v n _ _ u) ⟨ho, h _ _ (F.push _) (News.push F N _) (fun p hp => Heap.lt_size (N p hp).1)⟩
theorem tup_mul1 {x : Int} (hx : x = 1) (N : News h₀ L s.heap news) (hm : (l, tupObj [v] n) ∈ news)
    (h : Q (.ref l) s) : wpAny (model prog w) A (binaryOp .Mult (.ref l) (.int x u)) Q E s := by
  subst hx
  have ho := (N _ hm).1
  refine tm_any (R' := fun _ _ => True) ho fun s' ho' e => ?_
  subst e
  exact call_meets PySem.F.slot_tuple_mul ⟨_, ho, rfl⟩ PySem.F.entry_tuple_mul (PySem.F.args_tuple_mul_2 _ _) (tm_1 l v n _ _ u) ⟨ho, h⟩
theorem tup_mul2 {x : Int} (hx : x = 2) (F : Fr h₀ L s.heap m) (N : News h₀ L s.heap news) (hm : (l, tupObj [v] n) ∈ news)
    (h : ∀ D h', Fr h₀ L h' m → News h₀ L h' ((D, tupObj [v, v] 0) :: news) → (∀ p ∈ news, p.1 < D) → Q (.ref D) { s with heap := h' }) : wpAny (model prog w) A (binaryOp .Mult (.ref l) (.int x u)) Q E s := by
  subst hx
  have ho := (N _ hm).1
  refine tm_any (R' := fun _ _ => True) ho fun s' ho' e => ?_
  subst e
  exact call_meets PySem.F.slot_tuple_mul ⟨_, ho, rfl⟩ PySem.F.entry_tuple_mul (PySem.F.args_tuple_mul_2 _ _) (tm_2 l v n _ _ u) ⟨ho, h _ _ (F.push _) (News.push F N _) (fun p hp => Heap.lt_size (N p hp).1)⟩
theorem tup_mul3 {x : Int} (hx : x = 3) (F : Fr h₀ L s.heap m) (N : News h₀ L s.heap news) (hm : (l, tupObj [v] n) ∈ news)
    (h : ∀ D h', Fr h₀ L h' m → News h₀ L h' ((D, tupObj [v, v, v] 0) :: news) → (∀ p ∈ news, p.1 < D) → Q (.ref D) { s with heap := h' }) : wpAny (model prog w) A (binaryOp .Mult (.ref l) (.int x u)) Q E s := by
  subst hx
  have ho := (N _ hm).1
  refine tm_any (R' := fun _ _ => True) ho fun s' ho' e => ?_
  subst e
  exact call_meets PySem.F.slot_tuple_mul ⟨_, ho, rfl⟩ PySem.F.entry_tuple_mul (PySem.F.args_tuple_mul_2 _ _) (tm_3 l v n _ _ u) ⟨ho, h _ _ (F.push _) (News.push F N _) (fun p hp => Heap.lt_size (N p hp).1)⟩
end
theorem news_ne {h₀ h : Heap} {L a b : Addr} {l : Led} {o o' : Obj} (N : News h₀ L h l) (h1 : (a, o) ∈ l) (h2 : (b, o') ∈ l) (hc : o.cls ≠ o'.cls) : a ≠ b := fun e => by
  subst e
  have e1 := (N _ h1).1
  have e2 := (N _ h2).1
  rw [show ((a, o) : Addr × Obj).1 = a from rfl] at e1
  rw [show ((a, o') : Addr × Obj).1 = a from rfl, e1] at e2
  exact hc (congrArg Obj.cls (Option.some.inj e2))
theorem tup_ne_dict : (Value.type "tuple" : Value) ≠ .type "dict" := fun e => absurd (Value.type.inj e) (by decide)
theorem list_ne_dict : (Value.type "list" : Value) ≠ .type "dict" := fun e => absurd (Value.type.inj e) (by decide)
end
section
section
variable {prog : Program} {w : World} {A : Around} {E : Value → Shared → Prop} {s : Shared} {env : Env} {h₀ : Heap} {body : List Stmt} {Q : Flow → Shared → Prop}
/-- a for loop with a target of several names over a tuple of the ledger -/
theorem loop_ltup {y : PySem.Expr} {l : Addr} {vs : List Value} {nl : Nat} {m₀ : PySem.Str → Option Value} {news : Led} (J : Nat → (PySem.Str → Option Value) → Led → Prop)
    (hh : A.handled = none) (hm : (l, tupObj vs nl) ∈ news) (hkeep : ∀ i m nx, J i m nx → (l, tupObj vs nl) ∈ nx) (F : Fr h₀ env.locals s.heap m₀) (N : News h₀ env.locals s.heap news) (hj : J 0 m₀ news)
    (turn : ∀ i v m₁ nx I it h tk, vs[i]? = some v → it.cls = .type "tuple_iterator" → J i m₁ nx → (∀ p ∈ nx, p.1 ≠ I) → Fr h₀ env.locals h m₁ → News h₀ env.locals h ((I, it) :: nx) →
      wpAny (model prog w) A (assign y env v) (fun _ s₃ => wpAny (model prog w) A (execs body env) (UnrPost h₀ env.locals { s with heap := h, toks := tk } I it (J (i + 1)) Q) E s₃) E { s with heap := h, toks := tk })
    (done : ∀ m₁ nx h tk, J vs.length m₁ nx → Fr h₀ env.locals h m₁ → News h₀ env.locals h nx → Q .next { s with heap := h, toks := tk }) :
    wpAny (model prog w) A (pyIter (.ref l)) (fun it s₂ => TurnsAt prog w A h₀ env y body Q E it s₂) E s := by
  have hls : s.heap.IsTuple l vs.toArray := ⟨_, (N _ hm).1, rfl, _, rfl⟩
  have hls' : l < s.heap.objs.size := Heap.lt_size (N _ hm).1
  have hlL : l ≠ env.locals := (N _ hm).2.1
  refine wpAny_pyIter_tuple hls ?_
  have up : ∀ b o, s.heap.get? b = some o → (s.heap.push { cls := .type "tuple_iterator", data := .fields #[.ref l, .int 0 0] }).get? b = some o := fun b o e => Heap.get?_push_of_some _ e
  have W := KTurns.ofWalks (target := y) (Walks.tuple (prog := prog) (w := w) hh s.heap.objs.size l (Nat.ne_of_lt hls') vs.toArray) fun i v s Q E st q => letGo_tupleiter st.1 q
  refine ⟨_, _, _, _, _, _, _, m₀, news, J, rfl, W, fun hm => ?_, fun b hb => ?_, fun p hp hI => ?_, ⟨⟨_, Heap.get?_push_size _ rfl, rfl, rfl⟩, hls.push _⟩, F.keeps up, N.grown up, hj, ?_, ?_⟩
  · rcases List.mem_cons.mp hm with e | hm
    · exact absurd F.ns.lt (e ▸ Nat.lt_irrefl _)
    · exact hlL (List.mem_singleton.mp hm).symm
  · rw [List.mem_singleton.mp hb]; exact next_is_new F
  · exact absurd (Heap.lt_size (N p hp).1) ((List.mem_singleton.mp hI) ▸ Nat.lt_irrefl _)
  · intro i v m₁ news₁ hh' tk' own hin hP hJ hoff hown hat hmem hst F₁ N₁
    obtain ⟨⟨oi, hoi, hci⟩, _⟩ := hst
    have hI : (s.heap.objs.size, oi) ∈ own := hmem _ (.head _) (next_is_new F) oi hoi
    have N₂ : News h₀ env.locals hh' ((s.heap.objs.size, oi) :: news₁) := fun p hp => by
      rcases List.mem_cons.mp hp with rfl | hp
      · exact N₁ _ (List.mem_append_left _ hI)
      · exact N₁ _ (List.mem_append_right _ hp)
    have hv : vs[i]? = some v := by simpa using hP
    refine wpAny_mono (turn i v m₁ news₁ s.heap.objs.size oi hh' tk' hv hci.1 hJ (fun p hp e => hoff p hp (List.mem_singleton.mpr e)) F₁ N₂) (fun _ s₃ h₃ => wpAny_mono h₃ (fun f s₂ p => ?_) fun _ _ e => e) fun _ _ e => e
    have fin : UnrEnd h₀ env.locals { s with heap := hh', toks := tk' } s.heap.objs.size oi (J (i + 1)) s₂ → LoopStepU h₀ env.locals [s.heap.objs.size] own (J (i + 1)) { s with heap := hh', toks := tk' } .next s₂ := by
      rintro ⟨h', tk, m', news', e, F', N', ho, r⟩
      refine ⟨rfl, h', tk, m', news', e, F', fun p hp => ?_, fun p hp hI => ho p hp (List.mem_singleton.mp hI), r⟩
      rcases List.mem_append.mp hp with hp | hp
      · rcases List.mem_cons.mp (hown p hp) with h1 | h1
        · have h2 : hh'.get? p.1 = some p.2 := hat p hp
          have h3 : p = (s.heap.objs.size, oi) := by
            rw [h1, hoi] at h2
            exact Prod.ext h1 (Option.some.inj h2).symm
          rw [h3]; exact N' _ (List.mem_cons_self ..)
        · have h4 : p.1 = l := List.mem_singleton.mp h1
          have h5 := (N₁ _ (List.mem_append_right _ (hkeep _ _ _ hJ))).1
          have h2 : hh'.get? p.1 = some p.2 := hat p hp
          have h3 : p = (l, tupObj vs nl) := by
            rw [h4] at h2
            rw [show ((l, tupObj vs nl) : Addr × Obj).1 = l from rfl, h2] at h5
            exact Prod.ext h4 (Option.some.inj h5)
          rw [h3]; exact N' _ (List.mem_cons_of_mem _ (hkeep _ _ _ r))
      · exact N' _ (List.mem_cons_of_mem _ hp)
    cases f with
    | ret v => exact .ret p
    | brk => exact .brk p
    | next => exact .next (fin p)
    | cont => exact .cont (fin p)
  · rintro h' tk m' news' F' N' _ hJ
    exact done m' news' h' tk (by simpa using hJ) F' N'
end
end
section
inductive Key where | size | nsize | over | nover | done | ndone | inv | ninv | fault | nfault
noncomputable def Key.str : Key → PySem.Str
  | .size => S "size" | .nsize => S "not size" | .over => S "over" | .nover => S "not over" | .done => S "end" | .ndone => S "not end" | .inv => S "invalid" | .ninv => S "not invalid" | .fault => S "fault" | .nfault => S "not fault"
noncomputable def stepW (W : Nat → PySem.Str → Bool) (a : Nat) (x : PySem.Str) : Nat := if W a x = true then a + 1 else a
noncomputable def needW (W : Nat → PySem.Str → Bool) : Nat → List PySem.Str → Option Nat
  | a, [] => some a
  | a, x :: r => if W a x = true then needW W (a + 1) r else none
noncomputable def bareLen (W : Nat → PySem.Str → Bool) (a : Nat) (early needed late : List PySem.Str) : Nat := match needW W (early.foldl (stepW W) a) needed with
  | none => 0
  | some b => late.foldl (stepW W) b
noncomputable def openLen (W : Nat → PySem.Str → Bool) : Key → Nat
  | .size => bareLen W 0 [S "ON"] [S "SIZE", S "ERROR"] []
  | .over => bareLen W 0 [S "ON"] [S "OVERFLOW"] []
  | .done => bareLen W 0 [S "AT"] [S "END"] []
  | .inv => bareLen W 0 [] [S "INVALID"] [S "KEY"]
  | .fault => if W (stepW W 0 (S "ON")) (S "OVERFLOW") = true then stepW W 0 (S "ON") + 1 else bareLen W 0 [S "ON"] [S "EXCEPTION"] []
  | .nsize => if W 0 (S "NOT") = true then bareLen W 1 [S "ON"] [S "SIZE", S "ERROR"] [] else 0
  | .nover => if W 0 (S "NOT") = true then bareLen W 1 [S "ON"] [S "OVERFLOW"] [] else 0
  | .ndone => if W 0 (S "NOT") = true then bareLen W 1 [S "AT"] [S "END"] [] else 0
  | .ninv => if W 0 (S "NOT") = true then bareLen W 1 [] [S "INVALID"] [S "KEY"] else 0
  | .nfault => if W 0 (S "NOT") = true then bareLen W 1 [S "ON"] [S "EXCEPTION"] [] else 0
noncomputable def Strs (vs : List Value) (xs : List PySem.Str) : Prop := vs.length = xs.length ∧ ∀ (i : Nat) (v : Value), vs[i]? = some v → ∃ x u, xs[i]? = some x ∧ v = .str x u
theorem Strs.nil : Strs [] [] := ⟨rfl, fun i v h => by cases h⟩
theorem Strs.cons {vs : List Value} {xs : List PySem.Str} {x : PySem.Str} {u : Tok} (h : Strs vs xs) : Strs (.str x u :: vs) (x :: xs) := ⟨congrArg (· + 1) h.1, fun i v e => by
  cases i with
  | zero => cases e; exact ⟨x, u, rfl, rfl⟩
  | succ i => exact h.2 i v e⟩
inductive Br where | size | over | done | inv | fault
noncomputable def Br.str : Br → PySem.Str | .size => S "size" | .over => S "over" | .done => S "end" | .inv => S "invalid" | .fault => S "fault"
noncomputable def Br.early : Br → List PySem.Str | .size => [S "ON"] | .over => [S "ON"] | .done => [S "AT"] | .inv => [] | .fault => [S "ON"]
noncomputable def Br.need : Br → List PySem.Str | .size => [S "SIZE", S "ERROR"] | .over => [S "OVERFLOW"] | .done => [S "END"] | .inv => [S "INVALID"] | .fault => [S "EXCEPTION"]
noncomputable def Br.late : Br → List PySem.Str | .size => [] | .over => [] | .done => [] | .inv => [S "KEY"] | .fault => []
section
variable {w : World} {A₀ : Around} {Q E : Value → Shared → Prop} {s : Shared} {h₀ base : Heap} {L : Addr} {m mg mb : PySem.Str → Option Value} {hot news cold cold' : Led} {p : Program} {loose : List PySem.Str} {mean : ExcName → Option Value}
  {dp un : Nat} {gd : Option (List Code)} {cn : PySem.Str} {cs : Scope} {a : Addr} {ccd : Value} {cl : List (PySem.Str × Addr)} {outer : List Env}
  {R dR Lt Dn : Addr} {h1 h2 h3 : Int} {t1 t2 t3 tp : Tok} {pz k : Nat} {ki : Int} {tk : Tok} {x : PySem.Str} {tx : Tok} {ws : List (PySem.Str × PySem.Str)}
theorem phrase_ct (b : Br) (B : Below A₀ base outer h₀) (F : Fr h₀ L s.heap m) (X : (Mine.heap w.params).In h₀) (N : News h₀ L s.heap news) (T : Top p loose mean mg mb h₀) (hk : cs.kind = .function)
    (hd : dp + 3 < recursionLimit) (hu : un + 24 < cLine)
    (ret : ∀ T e n l es ns ls h' tk', Fr h₀ L h' m → News h₀ L h' ((T, tupObj [.ref e, .ref n, .ref l] 0) :: (l, tupObj ls 0) :: (n, tupObj ns 0) :: (e, tupObj es 0) :: news) → Strs es b.early → Strs ns b.need → Strs ls b.late → Q (.ref T) { s with heap := h', toks := tk' }) :
    wpAny (model PySem.Challenge.rw_pb0257_01.row.prog w) (ktrTop dp un gd cn cs L a ccd cl outer) (call (.ref 35) [.str b.str tx]) Q E s := by
  revert X
  k_fill
  w_on
  intro X
  refine' ct_enter (hot := []) (news := news) (cold := []) (Post := fun tl r => ∃ T e n l es ns ls, r = .ref T ∧ tl = [(T, tupObj [.ref e, .ref n, .ref l] 0), (l, tupObj ls 0), (n, tupObj ns 0), (e, tupObj es 0)] ∧ Strs es b.early ∧ Strs ns b.need ∧ Strs ls b.late) [(S "key", .str b.str tx)] B F X N (fun _ _ _ hp => nomatch hp) (fun _ hq => nomatch hq) (fun _ _ _ hp => nomatch hp) T hk ?ret ?ho ?hcd ?hroom ?hbind ?hloc ?c1 ?c2 ?c3 ?c4 ?_
  case ret => rintro r tl h' tk' F' N' _ ⟨T, e, n, l, es, ns, ls, rfl, rfl, a1, a2, a3⟩; exact ret T e n l es ns ls h' tk' F' N' a1 a2 a3
  case ho => k_is
  case hcd => k_is
  case hroom => k_room
  case hbind => exact BindsTo.of_eq rfl
  case hloc => exact locs rfl
  case c1 => exact rfl
  case c2 => exact rfl
  case c3 => exact rfl
  case c4 => decide
  clear ret N
  intro g' L' h' FG' F' N' hC' B' X' T'
  try dsimp only
  k_fold
  cases b
  all_goals (dsimp only [Br.str])
  all_goals k_steps
  all_goals (refine EndR.ret (by assumption) (by assumption) ⟨_, _, _, _, _, _, _, rfl, rfl, ?_, ?_, ?_⟩)
  all_goals first | exact Strs.nil | exact Strs.cons Strs.nil | exact Strs.cons (Strs.cons Strs.nil)
end
end
section
noncomputable def olmap (u : PySem.Str → Option Value) (k : Nat) (t : Tok) (e n l R : Addr) (kx : PySem.Str) (tk : Tok) : PySem.Str → Option Value := fun z => if z = S "ahead" then some (.int (k : Int) t) else if z = S "word" then u z else if z = S "early" then some (.ref e) else if z = S "needed" then some (.ref n) else if z = S "late" then some (.ref l) else if z = S "key" then some (.str kx tk) else if z = S "reader" then some (.ref R) else u z
section
variable {u : PySem.Str → Option Value} {k : Nat} {t t2 tk : Tok} {e n l R : Addr} {kx : PySem.Str} {x1 : Option Value}
theorem olmap_turn0 : (fun y => if y = S "word" then x1 else olmap u k t e n l R kx tk y) = olmap (fun y => if y = S "word" then x1 else u y) k t e n l R kx tk := by
  funext z
  by_cases h : z = S "word"
  · subst h; rfl
  · simp only [olmap, if_neg h]
theorem olmap_turn1 : (fun y => if y = S "ahead" then some (.int ((k : Int) + 1) t2) else if y = S "word" then x1 else olmap u k t e n l R kx tk y) = olmap (fun y => if y = S "word" then x1 else u y) (k + 1) t2 e n l R kx tk := by
  funext z
  by_cases h : z = S "ahead"
  · subst h; rfl
  · by_cases h' : z = S "word"
    · subst h'; rfl
    · simp only [olmap, if_neg h, if_neg h']
end
noncomputable def OlJ (f : Nat → Nat → Prop) (led : Led) (e n l R : Addr) (kx : PySem.Str) (tk : Tok) (i : Nat) (mm : PySem.Str → Option Value) (nx : Led) : Prop := nx = led ∧ ∃ u k t, mm = olmap u k t e n l R kx tk ∧ f i k
section
variable {f : Nat → Nat → Prop} {led : Led} {u : PySem.Str → Option Value} {k i : Nat} {t t2 tk : Tok} {e n l R : Addr} {kx : PySem.Str} {x1 : Option Value} {g h : Heap} {L I : Addr} {it : Obj} {s : Shared} {tt : Nat}
theorem ol_end0 (F : Fr g L h (fun y => if y = S "word" then x1 else olmap u k t e n l R kx tk y)) (N : News g L h ((I, it) :: led)) (off : ∀ q ∈ led, q.1 ≠ I) (hf : f (i + 1) k) : UnrEnd g L s I it (OlJ f led e n l R kx tk (i + 1)) { s with heap := h, toks := tt } :=
  UnrEnd.intro (olmap_turn0 ▸ F) N led (fun _ hq => hq) off ⟨rfl, _, _, _, rfl, hf⟩
theorem ol_end1 (F : Fr g L h (fun y => if y = S "ahead" then some (.int ((k : Int) + 1) t2) else if y = S "word" then x1 else olmap u k t e n l R kx tk y)) (N : News g L h ((I, it) :: led)) (off : ∀ q ∈ led, q.1 ≠ I) (hf : f (i + 1) (k + 1)) : UnrEnd g L s I it (OlJ f led e n l R kx tk (i + 1)) { s with heap := h, toks := tt } :=
  UnrEnd.intro (olmap_turn1 ▸ F) N led (fun _ hq => hq) off ⟨rfl, _, _, _, rfl, hf⟩
end
/-- what opening_length gives from its loops on -/
noncomputable def restLen (W : Nat → PySem.Str → Bool) (fl : Bool) (a : Nat) (es ns ls : List PySem.Str) : Nat := if fl = true ∧ W (es.foldl (stepW W) a) (S "OVERFLOW") = true then es.foldl (stepW W) a + 1 else bareLen W a es ns ls
noncomputable def nlLen (W : Nat → PySem.Str → Bool) (k : Nat) (ns ls : List PySem.Str) : Nat := match needW W k ns with
  | none => 0
  | some b => ls.foldl (stepW W) b
theorem needW_append {W : Nat → PySem.Str → Bool} {x : PySem.Str} : ∀ {xs : List PySem.Str} {a b : Nat}, needW W a xs = some b → needW W a (xs ++ [x]) = if W b x = true then some (b + 1) else none
  | [], a, b, h => by cases h; rfl
  | y :: r, a, b, h => by
    by_cases hy : W a y = true
    · rw [needW, if_pos hy] at h
      rw [List.cons_append, needW, if_pos hy]
      exact needW_append h
    · rw [needW, if_neg hy] at h; cases h
theorem needW_none {W : Nat → PySem.Str → Bool} {a : Nat} {xs ys : List PySem.Str} (h : needW W a xs = none) : needW W a (xs ++ ys) = none := by
  induction xs generalizing a with
  | nil => cases h
  | cons y r ih =>
    rw [List.cons_append, needW]
    rw [needW] at h
    by_cases hy : W a y = true
    · rw [if_pos hy] at h ⊢; exact ih h
    · rw [if_neg hy]
theorem take_snoc {xs : List PySem.Str} {i : Nat} {x : PySem.Str} (h : xs[i]? = some x) : xs.take (i + 1) = xs.take i ++ [x] := by rw [List.take_add_one, h]; rfl
@[reducible] noncomputable def tailOL : List Stmt := by
  have e : b42.drop 3 = b42.drop 3 := rfl
  conv at e => lhs; whnf
  exact lhsOf e
section
variable {W : Nat → PySem.Str → Bool} {ws : List (PySem.Str × PySem.Str)} {pz k a i : Nat} {x kx : PySem.Str} {xs xe xn xl : List PySem.Str}
theorem ol_f1 (hW : W = fun i x => wordAt ws (pz + i) x) (hx : xs[i]? = some x) (hk : k = (xs.take i).foldl (stepW W) a) (h : wordAt ws (pz + k) x = true) : k + 1 = (xs.take (i + 1)).foldl (stepW W) a := by
  subst hW
  rw [take_snoc hx, List.foldl_append, ← hk]
  exact (if_pos h).symm
theorem ol_f0 (hW : W = fun i x => wordAt ws (pz + i) x) (hx : xs[i]? = some x) (hk : k = (xs.take i).foldl (stepW W) a) (h : wordAt ws (pz + k) x = false) : k = (xs.take (i + 1)).foldl (stepW W) a := by
  subst hW
  rw [take_snoc hx, List.foldl_append, ← hk]
  exact (if_neg (fun q : wordAt ws (pz + k) x = true => by rw [h] at q; exact nomatch q)).symm
theorem ol_n1 (hW : W = fun i x => wordAt ws (pz + i) x) (hx : xs[i]? = some x) (hk : needW W a (xs.take i) = some k) (h : wordAt ws (pz + k) x = true) : needW W a (xs.take (i + 1)) = some (k + 1) := by
  subst hW
  rw [take_snoc hx, needW_append hk]
  exact if_pos h
theorem ol_n0 (hW : W = fun i x => wordAt ws (pz + i) x) (hx : xs[i]? = some x) (hk : needW W a (xs.take i) = some k) (h : wordAt ws (pz + k) x = false) : needW W a xs = none := by
  subst hW
  have h1 := needW_append (x := x) hk
  rw [← take_snoc hx, if_neg (fun q : wordAt ws (pz + k) x = true => by rw [h] at q; exact nomatch q)] at h1
  rw [← List.take_append_drop (i + 1) xs]
  exact needW_none h1
theorem ol_r1 (hW : W = fun i x => wordAt ws (pz + i) x) (hk : k = xe.foldl (stepW W) a) (hf : (kx == S "fault") = true) (h : wordAt ws (pz + k) (S "OVERFLOW") = true) : restLen W (kx == S "fault") a xe xn xl = k + 1 := by
  subst hk hW
  exact if_pos ⟨hf, h⟩
theorem ol_r2 (hW : W = fun i x => wordAt ws (pz + i) x) (hk : k = xe.foldl (stepW W) a) (h : wordAt ws (pz + k) (S "OVERFLOW") = false) : restLen W (kx == S "fault") a xe xn xl = nlLen W k xn xl := by
  subst hk hW
  exact if_neg fun q => by have q2 : wordAt ws (pz + _) (S "OVERFLOW") = true := q.2; rw [h] at q2; exact nomatch q2
theorem ol_r3 (hk : k = xe.foldl (stepW W) a) (h : (kx == S "fault") = false) : restLen W (kx == S "fault") a xe xn xl = nlLen W k xn xl := by
  subst hk
  exact if_neg fun q => by rw [h] at q; exact nomatch q.1
theorem ol_b0 (h : needW W k xn = none) : nlLen W k xn xl = 0 := by
  unfold nlLen
  rw [h]
theorem ol_b1 {b c : Nat} (h : needW W k xn = some b) (hc : c = xl.foldl (stepW W) b) : nlLen W k xn xl = c := by
  unfold nlLen
  rw [h, hc]
end
@[reducible] noncomputable def tailOL2 : List Stmt := by
  have e : b42.drop 5 = b42.drop 5 := rfl
  conv at e => lhs; whnf
  exact lhsOf e
end
section
section
variable {w : World} {A₀ : Around} {Q : Flow → Shared → Prop} {E : Value → Shared → Prop} {s : Shared} {h₀ base : Heap} {L : Addr} {u mg mb : PySem.Str → Option Value} {led cold : Led} {p : Program} {loose : List PySem.Str} {mean : ExcName → Option Value}
  {dp un : Nat} {gd : Option (List Code)} {outer : List Env} {es ns ls : List Value} {xe xn xl : List PySem.Str} {e n l : Addr} {a : Nat} {ta tk : Tok} {kx : PySem.Str}
  {R dR Lt Dn : Addr} {h1 h2 h3 : Int} {t1 t2 t3 tp : Tok} {pz : Nat} {ws : List (PySem.Str × PySem.Str)}
theorem ol_rest2 {bd : List Stmt} (hb : bd = tailOL2) (B : Below A₀ base outer h₀) (F : Fr h₀ L s.heap (olmap u a ta e n l R kx tk)) (X : (Mine.heap w.params).In h₀) (N : News h₀ L s.heap led) (T : Top p loose mean mg mb h₀)
    (hn : (n, tupObj ns 0) ∈ led) (hl : (l, tupObj ls 0) ∈ led) (xN : Strs ns xn) (xL : Strs ls xl)
    (hC : ColdAt h₀ cold) (hR : RdC cold R dR Lt ws) (hD : (dR, rdDict h1 h2 h3 t1 t2 t3 Lt Dn pz tp) ∈ cold) (hd : dp + 5 < recursionLimit) (hu : un + 45 < cLine)
    (hE : PassesOwn (model PySem.Challenge.rw_pb0257_01.row.prog w) (ktrTop dp un gd (S "opening_length") s42 L 42 (.ref 41) [] outer) (envX (S "opening_length") s42 L 42 (.ref 41) []) E)
    (ret : ∀ t h' tk' m', Fr h₀ L h' m' → Q (.ret (.int ((nlLen (fun i x => wordAt ws (pz + i) x) a xn xl : Nat) : Int) t)) { s with heap := h', toks := tk' }) :
    wpAny (model PySem.Challenge.rw_pb0257_01.row.prog w) (ktrTop dp un gd (S "opening_length") s42 L 42 (.ref 41) [] outer) (execs bd (envX (S "opening_length") s42 L 42 (.ref 41) [])) Q E s := by
  subst hb
  revert X
  k_fill
  w_on
  intro X
  obtain ⟨W, hW⟩ : ∃ W : Nat → PySem.Str → Bool, W = (fun i x => wordAt ws (pz + i) x) := ⟨_, rfl⟩
  rw [← hW] at ret
  repeat' (first | (k_unfold; (try dsimp only)) | (k_end; first | kc_close | wrow_close) | ((with_reducible show wpAny _ _ (PySem.call (Value.ref 28) _ _) _ _ _); k_dflt (refine' word_ahead_ct (by k_asm) (by k_asm) (by k_asm) (by k_asm) (by k_asm) (by first | exact rfl | assumption) (ColdAt.keeps (by assumption) (Fr.keep (by k_asm))) (by assumption) (by assumption) (by exact rfl) (by ktr_room) (by ktr_units) ?_); (intro _ _ _ _); (try dsimp only); (try k_fold)) | ((fail_if_success (with_reducible show wpAny _ _ (exec (Stmt.For _ _ _ _ _) _) _ _ _)); walk1) | ((fail_if_success (with_reducible show wpAny _ _ (exec (Stmt.For _ _ _ _ _) _) _ _ _)); dsimp only; (fail_if_success (with_reducible show wpAny _ _ (exec (Stmt.For _ _ _ _ _) _) _ _ _)); walk1) | ((fail_if_success (with_reducible show wpAny _ _ (exec (Stmt.For _ _ _ _ _) _) _ _ _)); leave1; walk_say "STEP leave1"; try dsimp only) | fail "no step")
  refine For_turns F ?_ (hE := hE)
  repeat' (first | (k_unfold; (try dsimp only)) | (k_end; first | kc_close | wrow_close) | ((with_reducible show wpAny _ _ (PySem.call (Value.ref 28) _ _) _ _ _); k_dflt (refine' word_ahead_ct (by k_asm) (by k_asm) (by k_asm) (by k_asm) (by k_asm) (by first | exact rfl | assumption) (ColdAt.keeps (by assumption) (Fr.keep (by k_asm))) (by assumption) (by assumption) (by exact rfl) (by ktr_room) (by ktr_units) ?_); (intro _ _ _ _); (try dsimp only); (try k_fold)) | ((fail_if_success (with_reducible show wpAny _ _ (pyIter (Value.ref _)) _ _ _)); walk1) | ((fail_if_success (with_reducible show wpAny _ _ (pyIter (Value.ref _)) _ _ _)); dsimp only; (fail_if_success (with_reducible show wpAny _ _ (pyIter (Value.ref _)) _ _ _)); walk1) | ((fail_if_success (with_reducible show wpAny _ _ (pyIter (Value.ref _)) _ _ _)); leave1; walk_say "STEP leave1"; try dsimp only) | fail "no step")
  refine loop_ltup (l := n) (vs := ns) (nl := 0) (OlJ (fun i k => needW W a (xn.take i) = some k) led e n l R kx tk) (by exact rfl) hn (fun i m nx hJ => hJ.1 ▸ hn) F N ⟨rfl, _, _, _, rfl, rfl⟩ ?turn ?done
  case turn =>
    clear F N
    rintro i v m₁ nx I it h tk1 hv hit ⟨rfl, u1, k1, t1, rfl, hk⟩ hoff F1 N1
    obtain ⟨x, ux, hx, rfl⟩ := xN.2 i _ hv
    repeat' (first | (k_unfold; (try dsimp only)) | (k_end; first | kc_close | wrow_close) | ((with_reducible show wpAny _ _ (PySem.call (Value.ref 28) _ _) _ _ _); k_dflt (refine' word_ahead_ct (by k_asm) (by k_asm) (by k_asm) (by k_asm) (by k_asm) (by first | exact rfl | assumption) (ColdAt.keeps (by assumption) (Fr.keep (by k_asm))) (by assumption) (by assumption) (by exact rfl) (by ktr_room) (by ktr_units) ?_); (intro _ _ _ _); (try dsimp only); (try k_fold)) | walk1 | (dsimp only; first | ((with_reducible show wpAny _ _ (PySem.call (Value.ref 28) _ _) _ _ _); k_dflt (refine' word_ahead_ct (by k_asm) (by k_asm) (by k_asm) (by k_asm) (by k_asm) (by first | exact rfl | assumption) (ColdAt.keeps (by assumption) (Fr.keep (by k_asm))) (by assumption) (by assumption) (by exact rfl) (by ktr_room) (by ktr_units) ?_); (intro _ _ _ _); (try dsimp only); (try k_fold)) | walk1) | (leave1; walk_say "STEP leave1"; try dsimp only) | fail "no step")
    · exact ol_end1 (by assumption) (by assumption) hoff (ol_n1 hW hx hk (by assumption))
    · rw [ol_b0 (ol_n0 hW hx hk (by assumption))] at ret
      exact ret _ _ _ _ (by assumption)
  rintro m₁ nx h tk1 ⟨rfl, u1, k1, t1, rfl, hk⟩ F1 N1
  clear F N
  rw [xN.1, List.take_length] at hk
  repeat' (first | (k_unfold; (try dsimp only)) | (k_end; first | kc_close | wrow_close) | ((with_reducible show wpAny _ _ (PySem.call (Value.ref 28) _ _) _ _ _); k_dflt (refine' word_ahead_ct (by k_asm) (by k_asm) (by k_asm) (by k_asm) (by k_asm) (by first | exact rfl | assumption) (ColdAt.keeps (by assumption) (Fr.keep (by k_asm))) (by assumption) (by assumption) (by exact rfl) (by ktr_room) (by ktr_units) ?_); (intro _ _ _ _); (try dsimp only); (try k_fold)) | ((fail_if_success (with_reducible show wpAny _ _ (exec (Stmt.For _ _ _ _ _) _) _ _ _)); walk1) | ((fail_if_success (with_reducible show wpAny _ _ (exec (Stmt.For _ _ _ _ _) _) _ _ _)); dsimp only; (fail_if_success (with_reducible show wpAny _ _ (exec (Stmt.For _ _ _ _ _) _) _ _ _)); walk1) | ((fail_if_success (with_reducible show wpAny _ _ (exec (Stmt.For _ _ _ _ _) _) _ _ _)); leave1; walk_say "STEP leave1"; try dsimp only) | fail "no step")
  refine For_turns F1 ?_ (hE := hE)
  repeat' (first | (k_unfold; (try dsimp only)) | (k_end; first | kc_close | wrow_close) | ((with_reducible show wpAny _ _ (PySem.call (Value.ref 28) _ _) _ _ _); k_dflt (refine' word_ahead_ct (by k_asm) (by k_asm) (by k_asm) (by k_asm) (by k_asm) (by first | exact rfl | assumption) (ColdAt.keeps (by assumption) (Fr.keep (by k_asm))) (by assumption) (by assumption) (by exact rfl) (by ktr_room) (by ktr_units) ?_); (intro _ _ _ _); (try dsimp only); (try k_fold)) | ((fail_if_success (with_reducible show wpAny _ _ (pyIter (Value.ref _)) _ _ _)); walk1) | ((fail_if_success (with_reducible show wpAny _ _ (pyIter (Value.ref _)) _ _ _)); dsimp only; (fail_if_success (with_reducible show wpAny _ _ (pyIter (Value.ref _)) _ _ _)); walk1) | ((fail_if_success (with_reducible show wpAny _ _ (pyIter (Value.ref _)) _ _ _)); leave1; walk_say "STEP leave1"; try dsimp only) | fail "no step")
  refine loop_ltup (l := l) (vs := ls) (nl := 0) (OlJ (fun i k => k = (xl.take i).foldl (stepW W) k1) nx e n l R kx tk) (by exact rfl) hl (fun i m nx hJ => hJ.1 ▸ hl) F1 N1 ⟨rfl, _, _, _, rfl, rfl⟩ ?turn1 ?done1
  case turn1 =>
    clear F1 N1 ret
    rintro i v m₁ nx I it h tk1 hv hit ⟨rfl, u1, k1, t1, rfl, hk⟩ hoff F1 N1
    obtain ⟨x, ux, hx, rfl⟩ := xL.2 i _ hv
    repeat' (first | (k_unfold; (try dsimp only)) | (k_end; first | kc_close | wrow_close) | ((with_reducible show wpAny _ _ (PySem.call (Value.ref 28) _ _) _ _ _); k_dflt (refine' word_ahead_ct (by k_asm) (by k_asm) (by k_asm) (by k_asm) (by k_asm) (by first | exact rfl | assumption) (ColdAt.keeps (by assumption) (Fr.keep (by k_asm))) (by assumption) (by assumption) (by exact rfl) (by ktr_room) (by ktr_units) ?_); (intro _ _ _ _); (try dsimp only); (try k_fold)) | walk1 | (dsimp only; first | ((with_reducible show wpAny _ _ (PySem.call (Value.ref 28) _ _) _ _ _); k_dflt (refine' word_ahead_ct (by k_asm) (by k_asm) (by k_asm) (by k_asm) (by k_asm) (by first | exact rfl | assumption) (ColdAt.keeps (by assumption) (Fr.keep (by k_asm))) (by assumption) (by assumption) (by exact rfl) (by ktr_room) (by ktr_units) ?_); (intro _ _ _ _); (try dsimp only); (try k_fold)) | walk1) | (leave1; walk_say "STEP leave1"; try dsimp only) | fail "no step")
    · exact ol_end1 (by assumption) (by assumption) hoff (ol_f1 hW hx hk (by assumption))
    · exact ol_end0 (by assumption) (by assumption) hoff (ol_f0 hW hx hk (by assumption))
  rintro m₁ nx h2 tk2 ⟨rfl, u2, k2, t2, rfl, hk2⟩ F2 N2
  clear F1 N1
  rw [xL.1, List.take_length] at hk2
  repeat' (first | (k_unfold; (try dsimp only)) | (k_end; first | kc_close | wrow_close) | ((with_reducible show wpAny _ _ (PySem.call (Value.ref 28) _ _) _ _ _); k_dflt (refine' word_ahead_ct (by k_asm) (by k_asm) (by k_asm) (by k_asm) (by k_asm) (by first | exact rfl | assumption) (ColdAt.keeps (by assumption) (Fr.keep (by k_asm))) (by assumption) (by assumption) (by exact rfl) (by ktr_room) (by ktr_units) ?_); (intro _ _ _ _); (try dsimp only); (try k_fold)) | walk1 | (dsimp only; first | ((with_reducible show wpAny _ _ (PySem.call (Value.ref 28) _ _) _ _ _); k_dflt (refine' word_ahead_ct (by k_asm) (by k_asm) (by k_asm) (by k_asm) (by k_asm) (by first | exact rfl | assumption) (ColdAt.keeps (by assumption) (Fr.keep (by k_asm))) (by assumption) (by assumption) (by exact rfl) (by ktr_room) (by ktr_units) ?_); (intro _ _ _ _); (try dsimp only); (try k_fold)) | walk1) | (leave1; walk_say "STEP leave1"; try dsimp only) | fail "no step")
  rw [ol_b1 hk hk2] at ret
  exact ret _ _ _ _ F2
end
section
variable {w : World} {A₀ : Around} {Q : Flow → Shared → Prop} {E : Value → Shared → Prop} {s : Shared} {h₀ base : Heap} {L : Addr} {u mg mb : PySem.Str → Option Value} {led cold : Led} {p : Program} {loose : List PySem.Str} {mean : ExcName → Option Value}
  {dp un : Nat} {gd : Option (List Code)} {outer : List Env} {es ns ls : List Value} {xe xn xl : List PySem.Str} {e n l : Addr} {a : Nat} {ta tk : Tok} {kx : PySem.Str}
  {R dR Lt Dn : Addr} {h1 h2 h3 : Int} {t1 t2 t3 tp : Tok} {pz : Nat} {ws : List (PySem.Str × PySem.Str)}
theorem ol_rest {bd : List Stmt} (hb : bd = tailOL) (B : Below A₀ base outer h₀) (F : Fr h₀ L s.heap (olmap u a ta e n l R kx tk)) (X : (Mine.heap w.params).In h₀) (N : News h₀ L s.heap led) (T : Top p loose mean mg mb h₀)
    (he : (e, tupObj es 0) ∈ led) (hn : (n, tupObj ns 0) ∈ led) (hl : (l, tupObj ls 0) ∈ led) (xE : Strs es xe) (xN : Strs ns xn) (xL : Strs ls xl)
    (hC : ColdAt h₀ cold) (hR : RdC cold R dR Lt ws) (hD : (dR, rdDict h1 h2 h3 t1 t2 t3 Lt Dn pz tp) ∈ cold) (hd : dp + 5 < recursionLimit) (hu : un + 45 < cLine)
    (hE : PassesOwn (model PySem.Challenge.rw_pb0257_01.row.prog w) (ktrTop dp un gd (S "opening_length") s42 L 42 (.ref 41) [] outer) (envX (S "opening_length") s42 L 42 (.ref 41) []) E)
    (ret : ∀ t h' tk' m', Fr h₀ L h' m' → Q (.ret (.int ((restLen (fun i x => wordAt ws (pz + i) x) (kx == S "fault") a xe xn xl : Nat) : Int) t)) { s with heap := h', toks := tk' }) :
    wpAny (model PySem.Challenge.rw_pb0257_01.row.prog w) (ktrTop dp un gd (S "opening_length") s42 L 42 (.ref 41) [] outer) (execs bd (envX (S "opening_length") s42 L 42 (.ref 41) [])) Q E s := by
  subst hb
  revert X
  k_fill
  w_on
  intro X
  obtain ⟨W, hW⟩ : ∃ W : Nat → PySem.Str → Bool, W = (fun i x => wordAt ws (pz + i) x) := ⟨_, rfl⟩
  rw [← hW] at ret
  repeat' (first | (k_unfold; (try dsimp only)) | (k_end; first | kc_close | wrow_close) | ((with_reducible show wpAny _ _ (PySem.call (Value.ref 28) _ _) _ _ _); k_dflt (refine' word_ahead_ct (by k_asm) (by k_asm) (by k_asm) (by k_asm) (by k_asm) (by first | exact rfl | assumption) (ColdAt.keeps (by assumption) (Fr.keep (by k_asm))) (by assumption) (by assumption) (by exact rfl) (by ktr_room) (by ktr_units) ?_); (intro _ _ _ _); (try dsimp only); (try k_fold)) | ((fail_if_success (with_reducible show wpAny _ _ (exec (Stmt.For _ _ _ _ _) _) _ _ _)); walk1) | ((fail_if_success (with_reducible show wpAny _ _ (exec (Stmt.For _ _ _ _ _) _) _ _ _)); dsimp only; (fail_if_success (with_reducible show wpAny _ _ (exec (Stmt.For _ _ _ _ _) _) _ _ _)); walk1) | ((fail_if_success (with_reducible show wpAny _ _ (exec (Stmt.For _ _ _ _ _) _) _ _ _)); leave1; walk_say "STEP leave1"; try dsimp only) | fail "no step")
  refine For_turns F ?_ (hE := hE)
  repeat' (first | (k_unfold; (try dsimp only)) | (k_end; first | kc_close | wrow_close) | ((with_reducible show wpAny _ _ (PySem.call (Value.ref 28) _ _) _ _ _); k_dflt (refine' word_ahead_ct (by k_asm) (by k_asm) (by k_asm) (by k_asm) (by k_asm) (by first | exact rfl | assumption) (ColdAt.keeps (by assumption) (Fr.keep (by k_asm))) (by assumption) (by assumption) (by exact rfl) (by ktr_room) (by ktr_units) ?_); (intro _ _ _ _); (try dsimp only); (try k_fold)) | ((fail_if_success (with_reducible show wpAny _ _ (pyIter (Value.ref _)) _ _ _)); walk1) | ((fail_if_success (with_reducible show wpAny _ _ (pyIter (Value.ref _)) _ _ _)); dsimp only; (fail_if_success (with_reducible show wpAny _ _ (pyIter (Value.ref _)) _ _ _)); walk1) | ((fail_if_success (with_reducible show wpAny _ _ (pyIter (Value.ref _)) _ _ _)); leave1; walk_say "STEP leave1"; try dsimp only) | fail "no step")
  refine loop_ltup (l := e) (vs := es) (nl := 0) (OlJ (fun i k => k = (xe.take i).foldl (stepW W) a) led e n l R kx tk) (by exact rfl) he (fun i m nx hJ => hJ.1 ▸ he) F N ⟨rfl, _, _, _, rfl, rfl⟩ ?turn ?done
  case turn =>
    clear F N ret
    rintro i v m₁ nx I it h tk1 hv hit ⟨rfl, u1, k1, t1, rfl, hk⟩ hoff F1 N1
    obtain ⟨x, ux, hx, rfl⟩ := xE.2 i _ hv
    repeat' (first | (k_unfold; (try dsimp only)) | (k_end; first | kc_close | wrow_close) | ((with_reducible show wpAny _ _ (PySem.call (Value.ref 28) _ _) _ _ _); k_dflt (refine' word_ahead_ct (by k_asm) (by k_asm) (by k_asm) (by k_asm) (by k_asm) (by first | exact rfl | assumption) (ColdAt.keeps (by assumption) (Fr.keep (by k_asm))) (by assumption) (by assumption) (by exact rfl) (by ktr_room) (by ktr_units) ?_); (intro _ _ _ _); (try dsimp only); (try k_fold)) | walk1 | (dsimp only; first | ((with_reducible show wpAny _ _ (PySem.call (Value.ref 28) _ _) _ _ _); k_dflt (refine' word_ahead_ct (by k_asm) (by k_asm) (by k_asm) (by k_asm) (by k_asm) (by first | exact rfl | assumption) (ColdAt.keeps (by assumption) (Fr.keep (by k_asm))) (by assumption) (by assumption) (by exact rfl) (by ktr_room) (by ktr_units) ?_); (intro _ _ _ _); (try dsimp only); (try k_fold)) | walk1) | (leave1; walk_say "STEP leave1"; try dsimp only) | fail "no step")
    · exact ol_end1 (by assumption) (by assumption) hoff (ol_f1 hW hx hk (by assumption))
    · exact ol_end0 (by assumption) (by assumption) hoff (ol_f0 hW hx hk (by assumption))
  rintro m₁ nx h tk1 ⟨rfl, u1, k1, t1, rfl, hk⟩ F1 N1
  clear F N
  rw [xE.1, List.take_length] at hk
  repeat' (first | (k_unfold; (try dsimp only)) | (k_end; first | kc_close | wrow_close) | ((with_reducible show wpAny _ _ (PySem.call (Value.ref 28) _ _) _ _ _); k_dflt (refine' word_ahead_ct (by k_asm) (by k_asm) (by k_asm) (by k_asm) (by k_asm) (by first | exact rfl | assumption) (ColdAt.keeps (by assumption) (Fr.keep (by k_asm))) (by assumption) (by assumption) (by exact rfl) (by ktr_room) (by ktr_units) ?_); (intro _ _ _ _); (try dsimp only); (try k_fold)) | ((fail_if_success (with_reducible show wpAny _ _ (PySem.execs (Stmt.For _ _ _ _ _ :: _) _) _ _ _)); walk1) | ((fail_if_success (with_reducible show wpAny _ _ (PySem.execs (Stmt.For _ _ _ _ _ :: _) _) _ _ _)); dsimp only; (fail_if_success (with_reducible show wpAny _ _ (PySem.execs (Stmt.For _ _ _ _ _ :: _) _) _ _ _)); walk1) | ((fail_if_success (with_reducible show wpAny _ _ (PySem.execs (Stmt.For _ _ _ _ _ :: _) _) _ _ _)); leave1; walk_say "STEP leave1"; try dsimp only) | fail "no step")
  · rw [ol_r1 hW hk (by assumption) (by assumption)] at ret
    exact ret _ _ _ _ (by assumption)
  · rw [ol_r2 hW hk (by assumption), hW] at ret
    exact ol_rest2 (bd := tailOL2) rfl B (by assumption) X (by assumption) T hn hl xN xL hC hR hD hd hu hE ret
  · rw [ol_r3 hk (by assumption), hW] at ret
    exact ol_rest2 (bd := tailOL2) rfl B (by assumption) X (by assumption) T hn hl xN xL hC hR hD hd hu hE ret
end
end
section
theorem fr_olmap {g h : Heap} {L : Addr} {m : PySem.Str → Option Value} {k : Nat} {t tk : Tok} {e n l R : Addr} {kx : PySem.Str} (F : Fr g L h m) (m1 : m (S "ahead") = some (.int (k : Int) t)) (m2 : m (S "early") = some (.ref e)) (m3 : m (S "needed") = some (.ref n)) (m4 : m (S "late") = some (.ref l))
    (m5 : m (S "key") = some (.str kx tk)) (m6 : m (S "reader") = some (.ref R)) : Fr g L h (olmap m k t e n l R kx tk) := by
  have e1 : m = olmap m k t e n l R kx tk := by
    funext z
    unfold olmap
    repeat' split
    · subst z; exact m1
    · rfl
    · subst z; exact m2
    · subst z; exact m3
    · subst z; exact m4
    · subst z; exact m5
    · subst z; exact m6
    · rfl
  rw [← e1]
  exact F
@[reducible] noncomputable def tailOL0 : List Stmt := by
  have e : b42.drop 2 = b42.drop 2 := rfl
  conv at e => lhs; whnf
  exact lhsOf e
section
variable {w : World} {A₀ : Around} {Q : Flow → Shared → Prop} {E : Value → Shared → Prop} {s : Shared} {h₀ base : Heap} {L : Addr} {u mg mb : PySem.Str → Option Value} {led cold : Led} {p : Program} {loose : List PySem.Str} {mean : ExcName → Option Value}
  {dp un : Nat} {gd : Option (List Code)} {outer : List Env} {es ns ls : List Value} {xe xn xl : List PySem.Str} {e n l : Addr} {a : Nat} {ta tk tb : Tok} {kx : PySem.Str}
  {R dR Lt Dn : Addr} {h1 h2 h3 : Int} {t1 t2 t3 tp : Tok} {pz : Nat} {ws : List (PySem.Str × PySem.Str)}
theorem ol_go (b : Br) {bd : List Stmt} (hb : bd = tailOL0) (B : Below A₀ base outer h₀) (F : Fr h₀ L s.heap (fun y => if y = S "ahead" then some (.int (a : Int) ta) else if y = S "bare" then some (.str b.str tb) else u y)) (X : (Mine.heap w.params).In h₀) (N : News h₀ L s.heap led) (T : Top p loose mean mg mb h₀)
    (u1 : u (S "reader") = some (.ref R)) (u2 : u (S "key") = some (.str kx tk))
    (hC : ColdAt h₀ cold) (hR : RdC cold R dR Lt ws) (hD : (dR, rdDict h1 h2 h3 t1 t2 t3 Lt Dn pz tp) ∈ cold) (hd : dp + 5 < recursionLimit) (hu : un + 45 < cLine)
    (hE : PassesOwn (model PySem.Challenge.rw_pb0257_01.row.prog w) (ktrTop dp un gd (S "opening_length") s42 L 42 (.ref 41) [] outer) (envX (S "opening_length") s42 L 42 (.ref 41) []) E)
    (ret : ∀ t h' tk' m', Fr h₀ L h' m' → Q (.ret (.int ((restLen (fun i x => wordAt ws (pz + i) x) (kx == S "fault") a b.early b.need b.late : Nat) : Int) t)) { s with heap := h', toks := tk' }) :
    wpAny (model PySem.Challenge.rw_pb0257_01.row.prog w) (ktrTop dp un gd (S "opening_length") s42 L 42 (.ref 41) [] outer) (execs bd (envX (S "opening_length") s42 L 42 (.ref 41) [])) Q E s := by
  subst hb
  revert X
  k_fill
  w_on
  intro X
  repeat' (first | (k_unfold; (try dsimp only)) | (k_end; first | kc_close | wrow_close) | ((with_reducible show wpAny _ _ (PySem.call (Value.ref 28) _ _) _ _ _); k_dflt (refine' word_ahead_ct (by k_asm) (by k_asm) (by k_asm) (by k_asm) (by k_asm) (by first | exact rfl | assumption) (ColdAt.keeps (by assumption) (Fr.keep (by k_asm))) (by assumption) (by assumption) (by exact rfl) (by ktr_room) (by ktr_units) ?_); (intro _ _ _ _); (try dsimp only); (try k_fold)) | ((fail_if_success (with_reducible show wpAny _ _ (PySem.call (Value.ref 35) _) _ _ _)); walk1) | ((fail_if_success (with_reducible show wpAny _ _ (PySem.call (Value.ref 35) _) _ _ _)); dsimp only; (fail_if_success (with_reducible show wpAny _ _ (PySem.call (Value.ref 35) _) _ _ _)); walk1) | ((fail_if_success (with_reducible show wpAny _ _ (PySem.call (Value.ref 35) _) _ _ _)); leave1; walk_say "STEP leave1"; try dsimp only) | fail "no step")
  try dsimp only
  refine' phrase_ct b ?B ?F ?X ?N ?T ?hk ?hd ?hu ?_
  case B => k_asm
  case F => k_asm
  case X => k_asm
  case N => k_asm
  case T => k_asm
  case hk => exact rfl
  case hd => ktr_room
  case hu => ktr_units
  intro Tt e n l es ns ls h' tk' F' N' xE xN xL
  clear F N
  repeat' (first | (k_unfold; (try dsimp only)) | (k_end; first | kc_close | wrow_close) | ((with_reducible show wpAny _ _ (PySem.call (Value.ref 28) _ _) _ _ _); k_dflt (refine' word_ahead_ct (by k_asm) (by k_asm) (by k_asm) (by k_asm) (by k_asm) (by first | exact rfl | assumption) (ColdAt.keeps (by assumption) (Fr.keep (by k_asm))) (by assumption) (by assumption) (by exact rfl) (by ktr_room) (by ktr_units) ?_); (intro _ _ _ _); (try dsimp only); (try k_fold)) | ((fail_if_success (with_reducible show wpAny _ _ (PySem.execs (Stmt.For _ _ _ _ _ :: _) _) _ _ _)); walk1) | ((fail_if_success (with_reducible show wpAny _ _ (PySem.execs (Stmt.For _ _ _ _ _ :: _) _) _ _ _)); dsimp only; (fail_if_success (with_reducible show wpAny _ _ (PySem.execs (Stmt.For _ _ _ _ _ :: _) _) _ _ _)); walk1) | ((fail_if_success (with_reducible show wpAny _ _ (PySem.execs (Stmt.For _ _ _ _ _ :: _) _) _ _ _)); leave1; walk_say "STEP leave1"; try dsimp only) | fail "no step")
  try dsimp only
  rename Fr _ _ _ _ => kF
  refine ol_rest (a := a) (bd := tailOL) rfl B (fr_olmap kF rfl rfl rfl rfl u2 u1) X (by assumption) T ?he ?hn ?hl xE xN xL hC hR hD hd hu hE ret
  case he => exact .tail _ (.tail _ (.tail _ (.head _)))
  case hn => exact .tail _ (.tail _ (.head _))
  case hl => exact .tail _ (.head _)
end
end
section
section
variable {W : Nat → PySem.Str → Bool} {fl : Bool} {a : Nat} {es ns ls : List PySem.Str}
theorem rest_no (h : fl = false) : restLen W fl a es ns ls = bareLen W a es ns ls := if_neg fun q => by rw [h] at q; exact nomatch q.1
theorem rest_fault (h : fl = true) : restLen W fl a es ns ls = if W (es.foldl (stepW W) a) (S "OVERFLOW") = true then es.foldl (stepW W) a + 1 else bareLen W a es ns ls := by
  unfold restLen
  subst h
  by_cases h : W (es.foldl (stepW W) a) (S "OVERFLOW") = true
  · rw [if_pos ⟨rfl, h⟩, if_pos h]
  · rw [if_neg fun q => h q.2, if_neg h]
end
section
variable {w : World} {A₀ : Around} {Q E : Value → Shared → Prop} {s : Shared} {h₀ base : Heap} {L : Addr} {m mg mb : PySem.Str → Option Value} {hot news cold cold' : Led} {p : Program} {loose : List PySem.Str} {mean : ExcName → Option Value}
  {dp un : Nat} {gd : Option (List Code)} {cn : PySem.Str} {cs : Scope} {a : Addr} {ccd : Value} {cl : List (PySem.Str × Addr)} {outer : List Env}
  {R dR Lt Dn : Addr} {h1 h2 h3 : Int} {t1 t2 t3 tp : Tok} {pz k : Nat} {ki : Int} {tk : Tok} {x : PySem.Str} {tx : Tok} {ws : List (PySem.Str × PySem.Str)}
theorem opening_length_ct (key : Key) (B : Below A₀ base outer h₀) (F : Fr h₀ L s.heap m) (X : (Mine.heap w.params).In h₀) (N : News h₀ L s.heap news) (T : Top p loose mean mg mb h₀) (hk : cs.kind = .function)
    (hC : ColdAt s.heap cold) (hR : RdC cold R dR Lt ws) (hD : (dR, rdDict h1 h2 h3 t1 t2 t3 Lt Dn pz tp) ∈ cold) (hd : dp + 6 < recursionLimit) (hu : un + 48 < cLine)
    (ret : ∀ t h' tk', Fr h₀ L h' m → News h₀ L h' news → Q (.int ((openLen (fun i x => wordAt ws (pz + i) x) key : Nat) : Int) t) { s with heap := h', toks := tk' }) :
    wpAny (model PySem.Challenge.rw_pb0257_01.row.prog w) (ktrTop dp un gd cn cs L a ccd cl outer) (call (.ref 42) [.ref R, .str key.str tx]) Q E s := by
  revert X
  k_fill
  w_on
  intro X
  refine' ct_enter (hot := []) (news := news) (cold := cold) (Post := fun tl r => ∃ t, r = .int ((openLen (fun i x => wordAt ws (pz + i) x) key : Nat) : Int) t) [(S "reader", .ref R), (S "key", .str key.str tx)] B F X N ?dn hC ?dc T hk ?ret ?ho ?hcd ?hroom ?hbind ?hloc ?c1 ?c2 ?c3 ?c4 ?_
  case dn => intro _ _ _ h; cases h
  case dc => intro _ _ _ h; cases h
  case ret => rintro r tl h' tk' F' N' _ ⟨t, rfl⟩; exact ret t h' tk' F' fun q hq => N' q (List.mem_append_right _ hq)
  case ho => k_is
  case hcd => k_is
  case hroom => k_room
  case hbind => exact BindsTo.of_eq rfl
  case hloc => exact locs rfl
  case c1 => exact rfl
  case c2 => exact rfl
  case c3 => exact rfl
  case c4 => decide
  clear ret N hC
  intro g' L' h' FG' F' N' hC' B' X' T'
  try dsimp only
  k_fold
  cases key
  all_goals (dsimp only [Key.str])
  case' size =>
    repeat' (first | (k_unfold; (try dsimp only)) | (k_end; first | kc_close | wrow_close) | ((with_reducible show wpAny _ _ (PySem.call (Value.ref 28) _ _) _ _ _); k_dflt (refine' word_ahead_ct (by k_asm) (by k_asm) (by k_asm) (by k_asm) (by k_asm) (by first | exact rfl | assumption) (ColdAt.keeps (by assumption) (Fr.keep (by k_asm))) (by assumption) (by assumption) (by exact rfl) (by ktr_room) (by ktr_units) ?_); (intro _ _ _ _); (try dsimp only); (try k_fold)) | ((fail_if_success (with_reducible show wpAny _ _ (PySem.execs (Stmt.Assign [Expr.Tuple [_,_,_] _ _] _ _ :: _) _) _ _ _)); walk1) | ((fail_if_success (with_reducible show wpAny _ _ (PySem.execs (Stmt.Assign [Expr.Tuple [_,_,_] _ _] _ _ :: _) _) _ _ _)); dsimp only; (fail_if_success (with_reducible show wpAny _ _ (PySem.execs (Stmt.Assign [Expr.Tuple [_,_,_] _ _] _ _ :: _) _) _ _ _)); walk1) | ((fail_if_success (with_reducible show wpAny _ _ (PySem.execs (Stmt.Assign [Expr.Tuple [_,_,_] _ _] _ _ :: _) _) _ _ _)); leave1; walk_say "STEP leave1"; try dsimp only) | fail "no step")
    · try dsimp only
      rename Fr g' L' _ _ => kF
      refine ol_go .size (a := 0) (bd := tailOL0) rfl B' kF X' (by assumption) T' rfl rfl hC' hR hD ?hdsize ?husize ?hEsize ?retsize
      case hdsize => ktr_room
      case husize => ktr_units
      case hEsize => passes_own
      clear kF
      intro t h2 tk2 m2 F2
      exact leaveK_ F2 News.nil fun _ _ => EndR.ret F2 News.nil ⟨_, congrArg (fun i : Nat => Value.int (i : Int) _) (rest_no rfl)⟩
  case' nsize =>
    repeat' (first | (k_unfold; (try dsimp only)) | (k_end; first | kc_close | wrow_close) | ((with_reducible show wpAny _ _ (PySem.call (Value.ref 28) _ _) _ _ _); k_dflt (refine' word_ahead_ct (by k_asm) (by k_asm) (by k_asm) (by k_asm) (by k_asm) (by first | exact rfl | assumption) (ColdAt.keeps (by assumption) (Fr.keep (by k_asm))) (by assumption) (by assumption) (by exact rfl) (by ktr_room) (by ktr_units) ?_); (intro _ _ _ _); (try dsimp only); (try k_fold)) | ((fail_if_success (with_reducible show wpAny _ _ (PySem.execs (Stmt.Assign [Expr.Tuple [_,_,_] _ _] _ _ :: _) _) _ _ _)); walk1) | ((fail_if_success (with_reducible show wpAny _ _ (PySem.execs (Stmt.Assign [Expr.Tuple [_,_,_] _ _] _ _ :: _) _) _ _ _)); dsimp only; (fail_if_success (with_reducible show wpAny _ _ (PySem.execs (Stmt.Assign [Expr.Tuple [_,_,_] _ _] _ _ :: _) _) _ _ _)); walk1) | ((fail_if_success (with_reducible show wpAny _ _ (PySem.execs (Stmt.Assign [Expr.Tuple [_,_,_] _ _] _ _ :: _) _) _ _ _)); leave1; walk_say "STEP leave1"; try dsimp only) | fail "no step")
    · try dsimp only
      rename Fr g' L' _ _ => kF
      refine ol_go .size (a := 1) (bd := tailOL0) rfl B' kF X' (by assumption) T' rfl rfl hC' hR hD ?hdnsize ?hunsize ?hEnsize ?retnsize
      case hdnsize => ktr_room
      case hunsize => ktr_units
      case hEnsize => passes_own
      clear kF
      intro t h2 tk2 m2 F2
      exact leaveK_ F2 News.nil fun _ _ => EndR.ret F2 News.nil ⟨_, congrArg (fun i : Nat => Value.int (i : Int) _) ((rest_no rfl).trans (if_pos (by assumption)).symm)⟩
    · exact EndR.ret (by assumption) (by assumption) ⟨_, congrArg (fun i : Nat => Value.int (i : Int) _) (if_neg (fun q => by rename _ = false => q2; exact nomatch q2.symm.trans q)).symm⟩
  case' over =>
    repeat' (first | (k_unfold; (try dsimp only)) | (k_end; first | kc_close | wrow_close) | ((with_reducible show wpAny _ _ (PySem.call (Value.ref 28) _ _) _ _ _); k_dflt (refine' word_ahead_ct (by k_asm) (by k_asm) (by k_asm) (by k_asm) (by k_asm) (by first | exact rfl | assumption) (ColdAt.keeps (by assumption) (Fr.keep (by k_asm))) (by assumption) (by assumption) (by exact rfl) (by ktr_room) (by ktr_units) ?_); (intro _ _ _ _); (try dsimp only); (try k_fold)) | ((fail_if_success (with_reducible show wpAny _ _ (PySem.execs (Stmt.Assign [Expr.Tuple [_,_,_] _ _] _ _ :: _) _) _ _ _)); walk1) | ((fail_if_success (with_reducible show wpAny _ _ (PySem.execs (Stmt.Assign [Expr.Tuple [_,_,_] _ _] _ _ :: _) _) _ _ _)); dsimp only; (fail_if_success (with_reducible show wpAny _ _ (PySem.execs (Stmt.Assign [Expr.Tuple [_,_,_] _ _] _ _ :: _) _) _ _ _)); walk1) | ((fail_if_success (with_reducible show wpAny _ _ (PySem.execs (Stmt.Assign [Expr.Tuple [_,_,_] _ _] _ _ :: _) _) _ _ _)); leave1; walk_say "STEP leave1"; try dsimp only) | fail "no step")
    · try dsimp only
      rename Fr g' L' _ _ => kF
      refine ol_go .over (a := 0) (bd := tailOL0) rfl B' kF X' (by assumption) T' rfl rfl hC' hR hD ?hdover ?huover ?hEover ?retover
      case hdover => ktr_room
      case huover => ktr_units
      case hEover => passes_own
      clear kF
      intro t h2 tk2 m2 F2
      exact leaveK_ F2 News.nil fun _ _ => EndR.ret F2 News.nil ⟨_, congrArg (fun i : Nat => Value.int (i : Int) _) (rest_no rfl)⟩
  case' nover =>
    repeat' (first | (k_unfold; (try dsimp only)) | (k_end; first | kc_close | wrow_close) | ((with_reducible show wpAny _ _ (PySem.call (Value.ref 28) _ _) _ _ _); k_dflt (refine' word_ahead_ct (by k_asm) (by k_asm) (by k_asm) (by k_asm) (by k_asm) (by first | exact rfl | assumption) (ColdAt.keeps (by assumption) (Fr.keep (by k_asm))) (by assumption) (by assumption) (by exact rfl) (by ktr_room) (by ktr_units) ?_); (intro _ _ _ _); (try dsimp only); (try k_fold)) | ((fail_if_success (with_reducible show wpAny _ _ (PySem.execs (Stmt.Assign [Expr.Tuple [_,_,_] _ _] _ _ :: _) _) _ _ _)); walk1) | ((fail_if_success (with_reducible show wpAny _ _ (PySem.execs (Stmt.Assign [Expr.Tuple [_,_,_] _ _] _ _ :: _) _) _ _ _)); dsimp only; (fail_if_success (with_reducible show wpAny _ _ (PySem.execs (Stmt.Assign [Expr.Tuple [_,_,_] _ _] _ _ :: _) _) _ _ _)); walk1) | ((fail_if_success (with_reducible show wpAny _ _ (PySem.execs (Stmt.Assign [Expr.Tuple [_,_,_] _ _] _ _ :: _) _) _ _ _)); leave1; walk_say "STEP leave1"; try dsimp only) | fail "no step")
    · try dsimp only
      rename Fr g' L' _ _ => kF
      refine ol_go .over (a := 1) (bd := tailOL0) rfl B' kF X' (by assumption) T' rfl rfl hC' hR hD ?hdnover ?hunover ?hEnover ?retnover
      case hdnover => ktr_room
      case hunover => ktr_units
      case hEnover => passes_own
      clear kF
      intro t h2 tk2 m2 F2
      exact leaveK_ F2 News.nil fun _ _ => EndR.ret F2 News.nil ⟨_, congrArg (fun i : Nat => Value.int (i : Int) _) ((rest_no rfl).trans (if_pos (by assumption)).symm)⟩
    · exact EndR.ret (by assumption) (by assumption) ⟨_, congrArg (fun i : Nat => Value.int (i : Int) _) (if_neg (fun q => by rename _ = false => q2; exact nomatch q2.symm.trans q)).symm⟩
  case' done =>
    repeat' (first | (k_unfold; (try dsimp only)) | (k_end; first | kc_close | wrow_close) | ((with_reducible show wpAny _ _ (PySem.call (Value.ref 28) _ _) _ _ _); k_dflt (refine' word_ahead_ct (by k_asm) (by k_asm) (by k_asm) (by k_asm) (by k_asm) (by first | exact rfl | assumption) (ColdAt.keeps (by assumption) (Fr.keep (by k_asm))) (by assumption) (by assumption) (by exact rfl) (by ktr_room) (by ktr_units) ?_); (intro _ _ _ _); (try dsimp only); (try k_fold)) | ((fail_if_success (with_reducible show wpAny _ _ (PySem.execs (Stmt.Assign [Expr.Tuple [_,_,_] _ _] _ _ :: _) _) _ _ _)); walk1) | ((fail_if_success (with_reducible show wpAny _ _ (PySem.execs (Stmt.Assign [Expr.Tuple [_,_,_] _ _] _ _ :: _) _) _ _ _)); dsimp only; (fail_if_success (with_reducible show wpAny _ _ (PySem.execs (Stmt.Assign [Expr.Tuple [_,_,_] _ _] _ _ :: _) _) _ _ _)); walk1) | ((fail_if_success (with_reducible show wpAny _ _ (PySem.execs (Stmt.Assign [Expr.Tuple [_,_,_] _ _] _ _ :: _) _) _ _ _)); leave1; walk_say "STEP leave1"; try dsimp only) | fail "no step")
    · try dsimp only
      rename Fr g' L' _ _ => kF
      refine ol_go .done (a := 0) (bd := tailOL0) rfl B' kF X' (by assumption) T' rfl rfl hC' hR hD ?hddone ?hudone ?hEdone ?retdone
      case hddone => ktr_room
      case hudone => ktr_units
      case hEdone => passes_own
      clear kF
      intro t h2 tk2 m2 F2
      exact leaveK_ F2 News.nil fun _ _ => EndR.ret F2 News.nil ⟨_, congrArg (fun i : Nat => Value.int (i : Int) _) (rest_no rfl)⟩
  case' ndone =>
    repeat' (first | (k_unfold; (try dsimp only)) | (k_end; first | kc_close | wrow_close) | ((with_reducible show wpAny _ _ (PySem.call (Value.ref 28) _ _) _ _ _); k_dflt (refine' word_ahead_ct (by k_asm) (by k_asm) (by k_asm) (by k_asm) (by k_asm) (by first | exact rfl | assumption) (ColdAt.keeps (by assumption) (Fr.keep (by k_asm))) (by assumption) (by assumption) (by exact rfl) (by ktr_room) (by ktr_units) ?_); (intro _ _ _ _); (try dsimp only); (try k_fold)) | ((fail_if_success (with_reducible show wpAny _ _ (PySem.execs (Stmt.Assign [Expr.Tuple [_,_,_] _ _] _ _ :: _) _) _ _ _)); walk1) | ((fail_if_success (with_reducible show wpAny _ _ (PySem.execs (Stmt.Assign [Expr.Tuple [_,_,_] _ _] _ _ :: _) _) _ _ _)); dsimp only; (fail_if_success (with_reducible show wpAny _ _ (PySem.execs (Stmt.Assign [Expr.Tuple [_,_,_] _ _] _ _ :: _) _) _ _ _)); walk1) | ((fail_if_success (with_reducible show wpAny _ _ (PySem.execs (Stmt.Assign [Expr.Tuple [_,_,_] _ _] _ _ :: _) _) _ _ _)); leave1; walk_say "STEP leave1"; try dsimp only) | fail "no step")
    · try dsimp only
      rename Fr g' L' _ _ => kF
      refine ol_go .done (a := 1) (bd := tailOL0) rfl B' kF X' (by assumption) T' rfl rfl hC' hR hD ?hdndone ?hundone ?hEndone ?retndone
      case hdndone => ktr_room
      case hundone => ktr_units
      case hEndone => passes_own
      clear kF
      intro t h2 tk2 m2 F2
      exact leaveK_ F2 News.nil fun _ _ => EndR.ret F2 News.nil ⟨_, congrArg (fun i : Nat => Value.int (i : Int) _) ((rest_no rfl).trans (if_pos (by assumption)).symm)⟩
    · exact EndR.ret (by assumption) (by assumption) ⟨_, congrArg (fun i : Nat => Value.int (i : Int) _) (if_neg (fun q => by rename _ = false => q2; exact nomatch q2.symm.trans q)).symm⟩
  case' inv =>
    repeat' (first | (k_unfold; (try dsimp only)) | (k_end; first | kc_close | wrow_close) | ((with_reducible show wpAny _ _ (PySem.call (Value.ref 28) _ _) _ _ _); k_dflt (refine' word_ahead_ct (by k_asm) (by k_asm) (by k_asm) (by k_asm) (by k_asm) (by first | exact rfl | assumption) (ColdAt.keeps (by assumption) (Fr.keep (by k_asm))) (by assumption) (by assumption) (by exact rfl) (by ktr_room) (by ktr_units) ?_); (intro _ _ _ _); (try dsimp only); (try k_fold)) | ((fail_if_success (with_reducible show wpAny _ _ (PySem.execs (Stmt.Assign [Expr.Tuple [_,_,_] _ _] _ _ :: _) _) _ _ _)); walk1) | ((fail_if_success (with_reducible show wpAny _ _ (PySem.execs (Stmt.Assign [Expr.Tuple [_,_,_] _ _] _ _ :: _) _) _ _ _)); dsimp only; (fail_if_success (with_reducible show wpAny _ _ (PySem.execs (Stmt.Assign [Expr.Tuple [_,_,_] _ _] _ _ :: _) _) _ _ _)); walk1) | ((fail_if_success (with_reducible show wpAny _ _ (PySem.execs (Stmt.Assign [Expr.Tuple [_,_,_] _ _] _ _ :: _) _) _ _ _)); leave1; walk_say "STEP leave1"; try dsimp only) | fail "no step")
    · try dsimp only
      rename Fr g' L' _ _ => kF
      refine ol_go .inv (a := 0) (bd := tailOL0) rfl B' kF X' (by assumption) T' rfl rfl hC' hR hD ?hdinv ?huinv ?hEinv ?retinv
      case hdinv => ktr_room
      case huinv => ktr_units
      case hEinv => passes_own
      clear kF
      intro t h2 tk2 m2 F2
      exact leaveK_ F2 News.nil fun _ _ => EndR.ret F2 News.nil ⟨_, congrArg (fun i : Nat => Value.int (i : Int) _) (rest_no rfl)⟩
  case' ninv =>
    repeat' (first | (k_unfold; (try dsimp only)) | (k_end; first | kc_close | wrow_close) | ((with_reducible show wpAny _ _ (PySem.call (Value.ref 28) _ _) _ _ _); k_dflt (refine' word_ahead_ct (by k_asm) (by k_asm) (by k_asm) (by k_asm) (by k_asm) (by first | exact rfl | assumption) (ColdAt.keeps (by assumption) (Fr.keep (by k_asm))) (by assumption) (by assumption) (by exact rfl) (by ktr_room) (by ktr_units) ?_); (intro _ _ _ _); (try dsimp only); (try k_fold)) | ((fail_if_success (with_reducible show wpAny _ _ (PySem.execs (Stmt.Assign [Expr.Tuple [_,_,_] _ _] _ _ :: _) _) _ _ _)); walk1) | ((fail_if_success (with_reducible show wpAny _ _ (PySem.execs (Stmt.Assign [Expr.Tuple [_,_,_] _ _] _ _ :: _) _) _ _ _)); dsimp only; (fail_if_success (with_reducible show wpAny _ _ (PySem.execs (Stmt.Assign [Expr.Tuple [_,_,_] _ _] _ _ :: _) _) _ _ _)); walk1) | ((fail_if_success (with_reducible show wpAny _ _ (PySem.execs (Stmt.Assign [Expr.Tuple [_,_,_] _ _] _ _ :: _) _) _ _ _)); leave1; walk_say "STEP leave1"; try dsimp only) | fail "no step")
    · try dsimp only
      rename Fr g' L' _ _ => kF
      refine ol_go .inv (a := 1) (bd := tailOL0) rfl B' kF X' (by assumption) T' rfl rfl hC' hR hD ?hdninv ?huninv ?hEninv ?retninv
      case hdninv => ktr_room
      case huninv => ktr_units
      case hEninv => passes_own
      clear kF
      intro t h2 tk2 m2 F2
      exact leaveK_ F2 News.nil fun _ _ => EndR.ret F2 News.nil ⟨_, congrArg (fun i : Nat => Value.int (i : Int) _) ((rest_no rfl).trans (if_pos (by assumption)).symm)⟩
    · exact EndR.ret (by assumption) (by assumption) ⟨_, congrArg (fun i : Nat => Value.int (i : Int) _) (if_neg (fun q => by rename _ = false => q2; exact nomatch q2.symm.trans q)).symm⟩
  case' fault =>
    repeat' (first | (k_unfold; (try dsimp only)) | (k_end; first | kc_close | wrow_close) | ((with_reducible show wpAny _ _ (PySem.call (Value.ref 28) _ _) _ _ _); k_dflt (refine' word_ahead_ct (by k_asm) (by k_asm) (by k_asm) (by k_asm) (by k_asm) (by first | exact rfl | assumption) (ColdAt.keeps (by assumption) (Fr.keep (by k_asm))) (by assumption) (by assumption) (by exact rfl) (by ktr_room) (by ktr_units) ?_); (intro _ _ _ _); (try dsimp only); (try k_fold)) | ((fail_if_success (with_reducible show wpAny _ _ (PySem.execs (Stmt.Assign [Expr.Tuple [_,_,_] _ _] _ _ :: _) _) _ _ _)); walk1) | ((fail_if_success (with_reducible show wpAny _ _ (PySem.execs (Stmt.Assign [Expr.Tuple [_,_,_] _ _] _ _ :: _) _) _ _ _)); dsimp only; (fail_if_success (with_reducible show wpAny _ _ (PySem.execs (Stmt.Assign [Expr.Tuple [_,_,_] _ _] _ _ :: _) _) _ _ _)); walk1) | ((fail_if_success (with_reducible show wpAny _ _ (PySem.execs (Stmt.Assign [Expr.Tuple [_,_,_] _ _] _ _ :: _) _) _ _ _)); leave1; walk_say "STEP leave1"; try dsimp only) | fail "no step")
    · try dsimp only
      rename Fr g' L' _ _ => kF
      refine ol_go .fault (a := 0) (bd := tailOL0) rfl B' kF X' (by assumption) T' rfl rfl hC' hR hD ?hdfault ?hufault ?hEfault ?retfault
      case hdfault => ktr_room
      case hufault => ktr_units
      case hEfault => passes_own
      clear kF
      intro t h2 tk2 m2 F2
      exact leaveK_ F2 News.nil fun _ _ => EndR.ret F2 News.nil ⟨_, congrArg (fun i : Nat => Value.int (i : Int) _) (rest_fault rfl)⟩
  case' nfault =>
    repeat' (first | (k_unfold; (try dsimp only)) | (k_end; first | kc_close | wrow_close) | ((with_reducible show wpAny _ _ (PySem.call (Value.ref 28) _ _) _ _ _); k_dflt (refine' word_ahead_ct (by k_asm) (by k_asm) (by k_asm) (by k_asm) (by k_asm) (by first | exact rfl | assumption) (ColdAt.keeps (by assumption) (Fr.keep (by k_asm))) (by assumption) (by assumption) (by exact rfl) (by ktr_room) (by ktr_units) ?_); (intro _ _ _ _); (try dsimp only); (try k_fold)) | ((fail_if_success (with_reducible show wpAny _ _ (PySem.execs (Stmt.Assign [Expr.Tuple [_,_,_] _ _] _ _ :: _) _) _ _ _)); walk1) | ((fail_if_success (with_reducible show wpAny _ _ (PySem.execs (Stmt.Assign [Expr.Tuple [_,_,_] _ _] _ _ :: _) _) _ _ _)); dsimp only; (fail_if_success (with_reducible show wpAny _ _ (PySem.execs (Stmt.Assign [Expr.Tuple [_,_,_] _ _] _ _ :: _) _) _ _ _)); walk1) | ((fail_if_success (with_reducible show wpAny _ _ (PySem.execs (Stmt.Assign [Expr.Tuple [_,_,_] _ _] _ _ :: _) _) _ _ _)); leave1; walk_say "STEP leave1"; try dsimp only) | fail "no step")
    · try dsimp only
      rename Fr g' L' _ _ => kF
      refine ol_go .fault (a := 1) (bd := tailOL0) rfl B' kF X' (by assumption) T' rfl rfl hC' hR hD ?hdnfault ?hunfault ?hEnfault ?retnfault
      case hdnfault => ktr_room
      case hunfault => ktr_units
      case hEnfault => passes_own
      clear kF
      intro t h2 tk2 m2 F2
      exact leaveK_ F2 News.nil fun _ _ => EndR.ret F2 News.nil ⟨_, congrArg (fun i : Nat => Value.int (i : Int) _) ((rest_no rfl).trans (if_pos (by assumption)).symm)⟩
    · exact EndR.ret (by assumption) (by assumption) ⟨_, congrArg (fun i : Nat => Value.int (i : Int) _) (if_neg (fun q => by rename _ = false => q2; exact nomatch q2.symm.trans q)).symm⟩
end
end
section
noncomputable def Cs : PySem.Str := S "CONTINUE"
theorem cs_eq : ({ cps := #[67, 79, 78, 84, 73, 78, 85, 69] } : PySem.Str) = Cs := by decide +kernel
noncomputable def kindAt (ws : List (PySem.Str × PySem.Str)) (i : Nat) (x : PySem.Str) : Bool := match ws[i]? with
  | some (kd, _) => kd == x
  | none => false
section
variable {ws : List (PySem.Str × PySem.Str)} {pz k : Nat} {kd wd x : PySem.Str} {rest : Led} {vs : List Value}
theorem ka1 (hw : ws[((pz : Int) + (k : Int)).toNat]? = some (kd, wd)) : (kd == x) = kindAt ws (pz + k) x := by
  rw [show ((pz : Int) + (k : Int)).toNat = pz + k by omega] at hw
  unfold kindAt; rw [hw]
theorem ka2 (hT : ToksAre rest vs ws) (h : ¬ ((pz : Int) + (k : Int) < (vs.length : Int))) : false = kindAt ws (pz + k) x := by
  have := hT.len
  unfold kindAt
  rw [List.getElem?_eq_none (by omega)]
theorem ka_lt (hT : ToksAre rest vs ws) (h : kindAt ws (pz + k) x = true) : (pz : Int) + (k : Int) < (vs.length : Int) := by
  have := hT.len
  by_cases q : pz + k < ws.length
  · omega
  · unfold kindAt at h
    rw [List.getElem?_eq_none (by omega)] at h; cases h
theorem kw0 (h : kindAt ws (pz + 0) (S "word") = false) : wordAt ws pz x = false := by
  unfold kindAt at h
  unfold wordAt
  rw [Nat.add_zero] at h
  cases e : ws[pz]? with
  | none => rfl
  | some q =>
    obtain ⟨kd, wd⟩ := q
    rw [e] at h
    dsimp only at h ⊢
    rw [h, Bool.false_and]
theorem kw1 (h : kindAt ws (pz + 0) (S "word") = true) (hw : ws[((pz : Int) + 0).toNat]? = some (kd, wd)) (hc : (wd != ({ cps := #[67, 79, 78, 84, 73, 78, 85, 69] } : PySem.Str)) = false) : wordAt ws pz Cs = true := by
  rw [show ((pz : Int) + 0).toNat = pz by omega] at hw
  unfold kindAt at h
  unfold wordAt
  rw [Nat.add_zero, hw] at h
  rw [hw]
  rw [cs_eq, bne_eq_false_iff_eq] at hc
  subst hc
  dsimp only at h ⊢
  rw [h, Bool.true_and]; exact beq_self_eq_true _
theorem kw2 (hw : ws[((pz : Int) + 0).toNat]? = some (kd, wd)) (hc : (wd != ({ cps := #[67, 79, 78, 84, 73, 78, 85, 69] } : PySem.Str)) = true) : wordAt ws pz Cs = false := by
  rw [show ((pz : Int) + 0).toNat = pz by omega] at hw
  unfold wordAt
  rw [hw]
  rw [cs_eq, bne_iff_ne] at hc
  dsimp only
  rw [beq_false_of_ne hc, Bool.and_false]
theorem cold_more {g h : Heap} {L : Addr} {m : PySem.Str → Option Value} {cold news : Led} {q : Addr × Obj} (F : Fr g L h m) (N : News g L h news) (hC : ColdAt g cold) (hq : q ∈ news) : ColdAt h (q :: cold) := fun r hr => by
  rcases List.mem_cons.mp hr with rfl | hr
  · exact (N _ hq).1
  · exact F.keep _ _ (hC r hr)
end
section
variable {w : World} {A₀ : Around} {Q E : Value → Shared → Prop} {s : Shared} {h₀ base : Heap} {L : Addr} {m mg mb : PySem.Str → Option Value} {hot news cold cold' : Led} {p : Program} {loose : List PySem.Str} {mean : ExcName → Option Value}
  {dp un : Nat} {gd : Option (List Code)} {cn : PySem.Str} {cs : Scope} {a : Addr} {ccd : Value} {cl : List (PySem.Str × Addr)} {outer : List Env}
  {R dR Lt Dn : Addr} {h1 h2 h3 : Int} {t1 t2 t3 tp : Tok} {pz k : Nat} {ki : Int} {tk : Tok} {x : PySem.Str} {tx : Tok} {vs : List Value} {n : Nat} {tq : Tok} {y : PySem.Str} {ws : List (PySem.Str × PySem.Str)}
theorem kind_ct (B : Below A₀ base outer h₀) (F : Fr h₀ L s.heap m) (X : (Mine.heap w.params).In h₀) (N : News h₀ L s.heap news) (T : Top p loose mean mg mb h₀) (hk : cs.kind = .function)
    (hC : ColdAt s.heap cold) (hI : (R, instObj 266 dR) ∈ cold) (hL : (Lt, listOf vs.toArray n) ∈ cold) (hT : ToksAre cold vs ws) (hD : (dR, rdDict h1 h2 h3 t1 t2 t3 Lt Dn pz tp) ∈ cold) (hki : ki = (k : Int)) (hd : dp + 4 < recursionLimit) (hu : un + 32 < cLine)
    (retT : ∀ h' tk', kindAt ws (pz + k) y = true → (pz : Int) + ki < (vs.length : Int) → Fr h₀ L h' m → News h₀ L h' news → Q (.bool true) { s with heap := h', toks := tk' })
    (retF : ∀ h' tk', kindAt ws (pz + k) y = false → Fr h₀ L h' m → News h₀ L h' news → Q (.bool false) { s with heap := h', toks := tk' }) :
    wpAny (model PySem.Challenge.rw_pb0257_01.row.prog w) (ktrTop dp un gd cn cs L a ccd cl outer) (call (.ref 149) [.ref R, .str y tq, .int ki tk]) Q E s := by
  revert X
  k_fill
  w_on
  intro X
  subst hki
  refine' ct_enter (hot := []) (news := news) (cold := cold) (Post := fun tl r => r = .bool (kindAt ws (pz + k) y)) [(S "self", .ref R), (S "kind", .str y tq), (S "ahead", .int k tk)] B F X N ?dn hC ?dc T hk ?ret ?ho ?hcd ?hroom ?hbind ?hloc ?c1 ?c2 ?c3 ?c4 ?_
  case dn => intro _ _ _ h; cases h
  case dc => intro _ _ _ h; cases h
  case ret =>
    rintro r tl h' tk' F' N' _ rfl
    have N2 : News h₀ L h' news := fun q hq => N' q (List.mem_append_right _ hq)
    cases e : kindAt ws (pz + k) y with
    | true => exact retT h' tk' e (ka_lt hT e) F' N2
    | false => exact retF h' tk' e F' N2
  case ho => k_is
  case hcd => k_is
  case hroom => k_room
  case hbind => exact binds_K (by k_in) rfl (by k_is) rfl rfl rfl
  case hloc => exact locs rfl
  case c1 => exact rfl
  case c2 => exact rfl
  case c3 => exact rfl
  case c4 => decide
  clear retT retF N hC
  intro g' L' h' FG' F' N' hC' B' X' T'
  try dsimp only
  k_fold
  repeat' (first | (k_unfold; (try dsimp only)) | (k_end; first | kc_close | wrow_close) | ((with_reducible show wpAny _ _ (call (Value.builtin _) [Value.ref _]) _ _ _); (with_reducible rename ToksAre _ _ _ => hTk); k_dflt (with_reducible refine' m_len (by k_asm) (by k_asm) (by with_reducible assumption) (Nat.le_trans (ToksAre.small hTk) (by decide)) ?_)) | ((with_reducible show wpAny _ _ (subscriptTail _ _ (Value.ref _) (Value.int _ _)) _ _ _); (with_reducible rename ToksAre _ _ _ => hTk); (with_unfolding_all refine' m_item (by k_asm) (by k_asm) (by with_reducible assumption) (by omega) (Nat.le_trans (ToksAre.small hTk) (by decide)) (by first | assumption | omega) ?_ (by with_unfolding_all rfl)); intro v' hv'; (obtain ⟨kd', wd', hw', ⟨a', d', q', h1', h2', h3', h4', t1', t2', t3', t4', u1', u2', u3', u4', n', hv0', hm1', hm2', hm3'⟩⟩ := ToksAre.get hTk _ _ hv'); subst hv0') | walk1 | (dsimp only; first | ((with_reducible show wpAny _ _ (call (Value.builtin _) [Value.ref _]) _ _ _); (with_reducible rename ToksAre _ _ _ => hTk); k_dflt (with_reducible refine' m_len (by k_asm) (by k_asm) (by with_reducible assumption) (Nat.le_trans (ToksAre.small hTk) (by decide)) ?_)) | ((with_reducible show wpAny _ _ (subscriptTail _ _ (Value.ref _) (Value.int _ _)) _ _ _); (with_reducible rename ToksAre _ _ _ => hTk); (with_unfolding_all refine' m_item (by k_asm) (by k_asm) (by with_reducible assumption) (by omega) (Nat.le_trans (ToksAre.small hTk) (by decide)) (by first | assumption | omega) ?_ (by with_unfolding_all rfl)); intro v' hv'; (obtain ⟨kd', wd', hw', ⟨a', d', q', h1', h2', h3', h4', t1', t2', t3', t4', u1', u2', u3', u4', n', hv0', hm1', hm2', hm3'⟩⟩ := ToksAre.get hTk _ _ hv'); subst hv0') | walk1) | (leave1; walk_say "STEP leave1"; try dsimp only) | fail "no step")
  all_goals (refine EndR.ret (by assumption) (by assumption) (congrArg Value.bool ?_))
  · exact ka1 (by assumption)
  · exact ka2 (by assumption) (by assumption)
theorem isword_ct (B : Below A₀ base outer h₀) (F : Fr h₀ L s.heap m) (X : (Mine.heap w.params).In h₀) (N : News h₀ L s.heap news) (T : Top p loose mean mg mb h₀) (hk : cs.kind = .function)
    (hC : ColdAt s.heap cold) (hR : RdC cold R dR Lt ws) (hD : (dR, rdDict h1 h2 h3 t1 t2 t3 Lt Dn pz tp) ∈ cold) (hd : dp + 5 < recursionLimit) (hu : un + 40 < cLine)
    (ret : ∀ h' tk', Fr h₀ L h' m → News h₀ L h' news → Q (.bool (wordAt ws pz Cs)) { s with heap := h', toks := tk' }) :
    wpAny (model PySem.Challenge.rw_pb0257_01.row.prog w) (ktrTop dp un gd cn cs L a ccd cl outer) (call (.ref 156) [.ref R, .str (S "CONTINUE") tx]) Q E s := by
  revert X
  k_fill
  w_on
  intro X
  obtain ⟨hI, vs, n, hL, hT⟩ := hR
  refine' ct_enter (hot := []) (news := news) (cold := cold) (Post := fun tl r => r = .bool (wordAt ws pz Cs)) [(S "self", .ref R), (S "words", .str (S "CONTINUE") tx)] B F X N ?dn hC ?dc T hk ?ret ?ho ?hcd ?hroom ?hbind ?hloc ?c1 ?c2 ?c3 ?c4 ?_
  case dn => intro _ _ _ h; cases h
  case dc => intro _ _ _ h; cases h
  case ret => rintro r tl h' tk' F' N' _ rfl; exact ret h' tk' F' fun q hq => N' q (List.mem_append_right _ hq)
  case ho => k_is
  case hcd => k_is
  case hroom => k_room
  case hbind => exact BindsTo.of_eq rfl
  case hloc => exact locs rfl
  case c1 => exact rfl
  case c2 => exact rfl
  case c3 => exact rfl
  case c4 => decide
  clear ret N hC
  intro g' L' h' FG' F' N' hC' B' X' T'
  try dsimp only
  k_fold
  repeat' (first | (k_unfold; (try dsimp only)) | (k_end; first | kc_close | wrow_close) | ((with_reducible show wpAny _ _ (PySem.call (Value.ref 149) _ _) _ _ _); k_dflt (refine' kind_ct (by k_asm) (by k_asm) (by k_asm) (by k_asm) (by k_asm) (by first | exact rfl | assumption) (ColdAt.keeps (by assumption) (Fr.keep (by k_asm))) (by assumption) (by assumption) (by assumption) (by assumption) (by exact rfl) (by ktr_room) (by ktr_units) ?_ ?_ <;> (intros; (try dsimp only); (try k_fold)))) | ((with_reducible show wpAny _ _ (call (Value.builtin _) [Value.ref _]) _ _ _); (with_reducible rename ToksAre _ _ _ => hTk); k_dflt (with_reducible refine' m_len (by k_asm) (by k_asm) (by with_reducible assumption) (Nat.le_trans (ToksAre.small hTk) (by decide)) ?_)) | ((with_reducible show wpAny _ _ (subscriptTail _ _ (Value.ref _) (Value.int _ _)) _ _ _); (with_reducible rename ToksAre _ _ _ => hTk); (with_unfolding_all refine' m_item (by k_asm) (by k_asm) (by with_reducible assumption) (by omega) (Nat.le_trans (ToksAre.small hTk) (by decide)) (by first | assumption | omega) ?_ (by with_unfolding_all rfl)); intro v' hv'; (obtain ⟨kd', wd', hw', ⟨a', d', q', h1', h2', h3', h4', t1', t2', t3', t4', u1', u2', u3', u4', n', hv0', hm1', hm2', hm3'⟩⟩ := ToksAre.get hTk _ _ hv'); subst hv0') | walk1 | (dsimp only; first | ((with_reducible show wpAny _ _ (PySem.call (Value.ref 149) _ _) _ _ _); k_dflt (refine' kind_ct (by k_asm) (by k_asm) (by k_asm) (by k_asm) (by k_asm) (by first | exact rfl | assumption) (ColdAt.keeps (by assumption) (Fr.keep (by k_asm))) (by assumption) (by assumption) (by assumption) (by assumption) (by exact rfl) (by ktr_room) (by ktr_units) ?_ ?_ <;> (intros; (try dsimp only); (try k_fold)))) | ((with_reducible show wpAny _ _ (call (Value.builtin _) [Value.ref _]) _ _ _); (with_reducible rename ToksAre _ _ _ => hTk); k_dflt (with_reducible refine' m_len (by k_asm) (by k_asm) (by with_reducible assumption) (Nat.le_trans (ToksAre.small hTk) (by decide)) ?_)) | ((with_reducible show wpAny _ _ (subscriptTail _ _ (Value.ref _) (Value.int _ _)) _ _ _); (with_reducible rename ToksAre _ _ _ => hTk); (with_unfolding_all refine' m_item (by k_asm) (by k_asm) (by with_reducible assumption) (by omega) (Nat.le_trans (ToksAre.small hTk) (by decide)) (by first | assumption | omega) ?_ (by with_unfolding_all rfl)); intro v' hv'; (obtain ⟨kd', wd', hw', ⟨a', d', q', h1', h2', h3', h4', t1', t2', t3', t4', u1', u2', u3', u4', n', hv0', hm1', hm2', hm3'⟩⟩ := ToksAre.get hTk _ _ hv'); subst hv0') | walk1) | (leave1; walk_say "STEP leave1"; try dsimp only) | fail "no step")
  all_goals (refine EndR.ret (tl := []) (by assumption) News.nil (congrArg Value.bool ?_))
  · exact (kw2 (by assumption) (by assumption)).symm
  · exact (kw1 (by assumption) (by assumption) (by assumption)).symm
  · exact (kw0 (by assumption)).symm
theorem isword_use (B : Below A₀ base outer h₀) (F : Fr h₀ L s.heap m) (X : (Mine.heap w.params).In h₀) (N : News h₀ L s.heap news) (T : Top p loose mean mg mb h₀) (hk : cs.kind = .function)
    (hC : ColdAt h₀ cold) (hR : RdC cold R dR Lt ws) (hD : (dR, rdDict h1 h2 h3 t1 t2 t3 Lt Dn pz tp) ∈ news) (hd : dp + 5 < recursionLimit) (hu : un + 40 < cLine)
    (ret : ∀ h' tk', Fr h₀ L h' m → News h₀ L h' news → Q (.bool (wordAt ws pz Cs)) { s with heap := h', toks := tk' }) :
    wpAny (model PySem.Challenge.rw_pb0257_01.row.prog w) (ktrTop dp un gd cn cs L a ccd cl outer) (call (.ref 156) [.ref R, .str (S "CONTINUE") tx]) Q E s :=
  isword_ct B F X N T hk (cold_more F N hC hD) (hR.mono fun q hq => .tail _ hq) (.head _) hd hu ret
theorem skip_ct (B : Below A₀ base outer h₀) (F : Fr h₀ L s.heap m) (X : (Mine.heap w.params).In h₀) (N : News h₀ L s.heap ((dR, rdDict h1 h2 h3 t1 t2 t3 Lt Dn ki tp) :: news)) (T : Top p loose mean mg mb h₀) (hk : cs.kind = .function)
    (dn : OffA news dR) (hC : ColdAt s.heap cold) (dc : OffA cold dR) (hR : RdC cold R dR Lt ws) (hki : ki = (pz : Int)) (hd : dp + 6 < recursionLimit) (hu : un + 48 < cLine)
    (retT : ∀ tp' h' tk', wordAt ws pz Cs = true → Fr h₀ L h' m → News h₀ L h' ((dR, rdDict h1 h2 h3 t1 t2 t3 Lt Dn (((pz + 1 : Nat)) : Int) tp') :: news) → Q (.bool true) { s with heap := h', toks := tk' })
    (retF : ∀ h' tk', wordAt ws pz Cs = false → Fr h₀ L h' m → News h₀ L h' ((dR, rdDict h1 h2 h3 t1 t2 t3 Lt Dn (pz : Int) tp) :: news) → Q (.bool false) { s with heap := h', toks := tk' }) :
    wpAny (model PySem.Challenge.rw_pb0257_01.row.prog w) (ktrTop dp un gd cn cs L a ccd cl outer) (call (.ref 163) [.ref R, .str (S "CONTINUE") tx]) Q E s := by
  subst hki
  revert X
  k_fill
  w_on
  intro X
  refine' ct_enter (hot := [(dR, rdDict h1 h2 h3 t1 t2 t3 Lt Dn pz tp)]) (news := news) (cold := cold)
    (Post := fun tl r => (wordAt ws pz Cs = true ∧ r = .bool true ∧ ∃ tp', tl = [(dR, rdDict h1 h2 h3 t1 t2 t3 Lt Dn (((pz + 1 : Nat)) : Int) tp')]) ∨ (wordAt ws pz Cs = false ∧ r = .bool false ∧ tl = [(dR, rdDict h1 h2 h3 t1 t2 t3 Lt Dn (pz : Int) tp)]))
    [(S "self", .ref R), (S "words", .str (S "CONTINUE") tx)] B F X N dn.one hC dc.one T hk ?ret ?ho ?hcd ?hroom ?hbind ?hloc ?c1 ?c2 ?c3 ?c4 ?_
  case ret =>
    rintro r tl h' tk' F' N' _ (⟨e, rfl, tp', rfl⟩ | ⟨e, rfl, rfl⟩)
    · exact retT tp' h' tk' e F' N'
    · exact retF h' tk' e F' N'
  case ho => k_is
  case hcd => k_is
  case hroom => k_room
  case hbind => exact BindsTo.of_eq rfl
  case hloc => exact locs rfl
  case c1 => exact rfl
  case c2 => exact rfl
  case c3 => exact rfl
  case c4 => decide
  clear retT retF N hC
  have hI := hR.inst
  intro g' L' h' FG' F' N' hC' B' X' T'
  try dsimp only
  k_fold
  repeat' (first | (k_unfold; (try dsimp only)) | (k_end; first | kc_close | wrow_close) | ((with_reducible show wpAny _ _ (PySem.call (Value.ref 156) _ _) _ _ _); k_dflt (refine' isword_use (by k_asm) (by k_asm) (by k_asm) (by k_asm) (by k_asm) (by first | exact rfl | assumption) (by assumption) (by assumption) (by k_mem) (by ktr_room) (by ktr_units) ?_); (intro _ _ _ _); (try dsimp only); (try k_fold)) | walk1 | (dsimp only; first | ((with_reducible show wpAny _ _ (PySem.call (Value.ref 156) _ _) _ _ _); k_dflt (refine' isword_use (by k_asm) (by k_asm) (by k_asm) (by k_asm) (by k_asm) (by first | exact rfl | assumption) (by assumption) (by assumption) (by k_mem) (by ktr_room) (by ktr_units) ?_); (intro _ _ _ _); (try dsimp only); (try k_fold)) | walk1) | (leave1; walk_say "STEP leave1"; try dsimp only) | fail "no step")
  · exact EndR.sub [(dR, rdDict h1 h2 h3 t1 t2 t3 Lt Dn (((pz + 1 : Nat)) : Int) _)] (by assumption) (by assumption) (sub_cons (by with_unfolding_all k_mem) sub_nil) (.inl ⟨by assumption, rfl, _, rfl⟩)
  · exact EndR.sub _ (by assumption) (by assumption) (sub_cons (by k_mem) sub_nil) (.inr ⟨by assumption, rfl, rfl⟩)
end
end
section
section
variable {w : World} {A₀ : Around} {Q E : Value → Shared → Prop} {s : Shared} {h₀ base : Heap} {L : Addr} {m mg mb : PySem.Str → Option Value} {hot news cold cold' : Led} {p : Program} {loose : List PySem.Str} {mean : ExcName → Option Value}
  {dp un : Nat} {gd : Option (List Code)} {cn : PySem.Str} {cs : Scope} {a : Addr} {ccd : Value} {cl : List (PySem.Str × Addr)} {outer : List Env}
  {R dR Lt Dn : Addr} {h1 h2 h3 : Int} {t1 t2 t3 tp : Tok} {pz k c : Nat} {ki : Int} {tk : Tok} {x : PySem.Str} {tx : Tok} {ws : List (PySem.Str × PySem.Str)}
theorem skip_T (B : Below A₀ base outer h₀) (F : Fr h₀ L s.heap m) (X : (Mine.heap w.params).In h₀) (N : News h₀ L s.heap ((dR, rdDict h1 h2 h3 t1 t2 t3 Lt Dn (pz : Int) tp) :: news)) (T : Top p loose mean mg mb h₀) (hk : cs.kind = .function)
    (dn : OffA news dR) (hC : ColdAt s.heap cold) (dc : OffA cold dR) (hR : RdC cold R dR Lt ws) (hW : wordAt ws pz Cs = true) (hd : dp + 6 < recursionLimit) (hu : un + 48 < cLine)
    (ret : ∀ tp' h' tk', Fr h₀ L h' m → News h₀ L h' ((dR, rdDict h1 h2 h3 t1 t2 t3 Lt Dn (((pz + 1 : Nat)) : Int) tp') :: news) → Q (.bool true) { s with heap := h', toks := tk' }) :
    wpAny (model PySem.Challenge.rw_pb0257_01.row.prog w) (ktrTop dp un gd cn cs L a ccd cl outer) (call (.ref 163) [.ref R, .str (S "CONTINUE") tx]) Q E s :=
  skip_ct B F X N T hk dn hC dc hR rfl hd hu (fun tp' h' tk' _ F' N' => ret tp' h' tk' F' N') (fun _ _ e _ _ => by rw [hW] at e; cases e)
theorem skip_F (B : Below A₀ base outer h₀) (F : Fr h₀ L s.heap m) (X : (Mine.heap w.params).In h₀) (N : News h₀ L s.heap ((dR, rdDict h1 h2 h3 t1 t2 t3 Lt Dn (pz : Int) tp) :: news)) (T : Top p loose mean mg mb h₀) (hk : cs.kind = .function)
    (dn : OffA news dR) (hC : ColdAt s.heap cold) (dc : OffA cold dR) (hR : RdC cold R dR Lt ws) (hW : wordAt ws pz Cs = false) (hd : dp + 6 < recursionLimit) (hu : un + 48 < cLine)
    (ret : ∀ h' tk', Fr h₀ L h' m → News h₀ L h' ((dR, rdDict h1 h2 h3 t1 t2 t3 Lt Dn (pz : Int) tp) :: news) → Q (.bool false) { s with heap := h', toks := tk' }) :
    wpAny (model PySem.Challenge.rw_pb0257_01.row.prog w) (ktrTop dp un gd cn cs L a ccd cl outer) (call (.ref 163) [.ref R, .str (S "CONTINUE") tx]) Q E s :=
  skip_ct B F X N T hk dn hC dc hR rfl hd hu (fun _ _ _ e _ _ => by rw [hW] at e; cases e) (fun h' tk' _ F' N' => ret h' tk' F' N')
noncomputable def contW (ws : List (PySem.Str × PySem.Str)) (pz : Nat) : Nat → Prop
  | 0 => wordAt ws pz Cs = false
  | c + 1 => wordAt ws pz Cs = true ∧ contW ws (pz + 1) c
noncomputable def bump (pz : Nat) : Nat → Nat
  | 0 => pz
  | c + 1 => bump (pz + 1) c
theorem bump_eq : ∀ (c pz : Nat), bump pz c = pz + c
  | 0, _ => rfl
  | c + 1, pz => by rw [bump, bump_eq c]; omega
theorem law_body_ct (hc : c ≤ 3) (hc1 : 1 ≤ c) (B : Below A₀ base outer h₀) (F : Fr h₀ L s.heap m) (X : (Mine.heap w.params).In h₀) (N : News h₀ L s.heap ((dR, rdDict h1 h2 h3 t1 t2 t3 Lt Dn (pz : Int) tp) :: news)) (T : Top p loose mean mg mb h₀) (hk : cs.kind = .function)
    (dn : OffA news dR) (hC : ColdAt s.heap cold) (dc : OffA cold dR) (hR : RdC cold R dR Lt ws) (hW : contW ws pz c) (hd : dp + 9 < recursionLimit) (hu : un + 72 < cLine)
    (ret : ∀ b q n n' t tp' h' tk', Fr h₀ L h' m → News h₀ L h' ((b, tupObj (List.replicate c (.ref q)) n) :: (q, tupObj [.str (S "continue") t] n') :: (dR, rdDict h1 h2 h3 t1 t2 t3 Lt Dn ((bump pz c : Nat) : Int) tp') :: news) →
      OffA (news ++ cold) b → OffA (news ++ cold) q → b ≠ dR → q ≠ dR → Q (.ref b) { s with heap := h', toks := tk' }) :
    wpAny (model PySem.Challenge.rw_pb0257_01.row.prog w) (ktrTop dp un gd cn cs L a ccd cl outer) (call (.ref 350) [.ref R]) Q E s := by
  revert X
  k_fill
  w_on
  intro X
  refine' ct_enter (hot := [(dR, rdDict h1 h2 h3 t1 t2 t3 Lt Dn pz tp)]) (news := news) (cold := cold)
    (Post := fun tl r => ∃ b q n n' t tp', r = .ref b ∧ tl = [(b, tupObj (List.replicate c (.ref q)) n), (q, tupObj [.str (S "continue") t] n'), (dR, rdDict h1 h2 h3 t1 t2 t3 Lt Dn ((bump pz c : Nat) : Int) tp')] ∧ b ≠ dR ∧ q ≠ dR)
    [(S "reader", .ref R)] B F X N dn.one hC dc.one T hk ?ret ?ho ?hcd ?hroom ?hbind ?hloc ?c1 ?c2 ?c3 ?c4 ?_
  case ret =>
    rintro r tl h' tk' F' N' O' ⟨b, q, n, n', t, tp', rfl, rfl, e1, e2⟩
    exact ret b q n n' t tp' h' tk' F' N' (fun x hx => O' x hx _ (List.Mem.head _)) (fun x hx => O' x hx _ (.tail _ (.head _))) e1 e2
  case ho => k_is
  case hcd => k_is
  case hroom => k_room
  case hbind => exact BindsTo.of_eq rfl
  case hloc => exact locs rfl
  case c1 => exact rfl
  case c2 => exact rfl
  case c3 => exact rfl
  case c4 => decide
  clear ret N hC
  have hI := hR.inst
  obtain rfl | rfl | rfl : c = 1 ∨ c = 2 ∨ c = 3 := by omega
  · obtain ⟨hw0, hw1⟩ := hW
    intro g' L' h' FG' F' N' hC' B' X' T'
    try dsimp only
    k_fold
    have hw1 : wordAt ws (pz + 1) Cs = false := hw1
    repeat' (first | (k_unfold; (try dsimp only)) | (k_end; first | kc_close | wrow_close) | ((with_reducible show wpAny _ _ (PySem.call (Value.ref 163) _ _) _ _ _); k_dflt (first | (refine' skip_T (by k_asm) (by k_asm) (by k_asm) (by k_asm) (by k_asm) (by first | exact rfl | assumption) (by first | exact OffA.nil | k_all) (cold_now (by k_asm) (by k_asm)) (by assumption) (by assumption) (by assumption) (by ktr_room) (by ktr_units) ?_; (intro _ _ _ _ _); (try dsimp only); (try k_fold)) | (refine' skip_F (by k_asm) (by k_asm) (by k_asm) (by k_asm) (by k_asm) (by first | exact rfl | assumption) (by first | exact OffA.nil | k_all) (cold_now (by k_asm) (by k_asm)) (by assumption) (by assumption) (by assumption) (by ktr_room) (by ktr_units) ?_; (intro _ _ _ _); (try dsimp only); (try k_fold)))) | ((with_reducible show wpAny _ _ (exec (Stmt.While _ _ _ _) _) _ _ _); k_dflt (refine whl_start 100 ?_)) | ((with_reducible show wpAny _ _ (binaryOp Operator.Mult (Value.ref _) (Value.int _ _)) _ _ _); k_dflt (first | (refine' tup_mul1 (by decide) (by k_asm) (by k_mem) ?_; k_whole) | (first | refine' tup_mul2 (by decide) (by k_asm) (by k_asm) (by k_mem) ?_ | refine' tup_mul3 (by decide) (by k_asm) (by k_asm) (by k_mem) ?_ | refine' tup_mul0 (by decide) (by k_asm) (by k_asm) (by k_mem) ?_); k_whole; intro _ _ _ _ l1; (try k_lt l1); (try k_sweep))) | walk1 | (dsimp only; first | ((with_reducible show wpAny _ _ (PySem.call (Value.ref 163) _ _) _ _ _); k_dflt (first | (refine' skip_T (by k_asm) (by k_asm) (by k_asm) (by k_asm) (by k_asm) (by first | exact rfl | assumption) (by first | exact OffA.nil | k_all) (cold_now (by k_asm) (by k_asm)) (by assumption) (by assumption) (by assumption) (by ktr_room) (by ktr_units) ?_; (intro _ _ _ _ _); (try dsimp only); (try k_fold)) | (refine' skip_F (by k_asm) (by k_asm) (by k_asm) (by k_asm) (by k_asm) (by first | exact rfl | assumption) (by first | exact OffA.nil | k_all) (cold_now (by k_asm) (by k_asm)) (by assumption) (by assumption) (by assumption) (by ktr_room) (by ktr_units) ?_; (intro _ _ _ _); (try dsimp only); (try k_fold)))) | ((with_reducible show wpAny _ _ (exec (Stmt.While _ _ _ _) _) _ _ _); k_dflt (refine whl_start 100 ?_)) | ((with_reducible show wpAny _ _ (binaryOp Operator.Mult (Value.ref _) (Value.int _ _)) _ _ _); k_dflt (first | (refine' tup_mul1 (by decide) (by k_asm) (by k_mem) ?_; k_whole) | (first | refine' tup_mul2 (by decide) (by k_asm) (by k_asm) (by k_mem) ?_ | refine' tup_mul3 (by decide) (by k_asm) (by k_asm) (by k_mem) ?_ | refine' tup_mul0 (by decide) (by k_asm) (by k_asm) (by k_mem) ?_); k_whole; intro _ _ _ _ l1; (try k_lt l1); (try k_sweep))) | walk1) | (leave1; walk_say "STEP leave1"; try dsimp only) | fail "no step")
    refine EndR.sub [(_, tupObj (List.replicate 1 (.ref _)) _), (_, tupObj [.str (S "continue") _] _), (dR, rdDict h1 h2 h3 t1 t2 t3 Lt Dn ((bump pz 1 : Nat) : Int) _)] (by assumption) (by assumption)
      (sub_cons (by k_mem) (sub_cons (by k_mem) (sub_cons (by k_mem) sub_nil))) ⟨_, _, _, _, _, _, rfl, rfl, ?_, ?_⟩ <;> exact news_ne (by assumption) (by k_mem) (by k_mem) tup_ne_dict
  · obtain ⟨hw0, hw1, hw2⟩ := hW
    intro g' L' h' FG' F' N' hC' B' X' T'
    try dsimp only
    k_fold
    have hw2 : wordAt ws (pz + 1 + 1) Cs = false := hw2
    repeat' (first | (k_unfold; (try dsimp only)) | (k_end; first | kc_close | wrow_close) | ((with_reducible show wpAny _ _ (PySem.call (Value.ref 163) _ _) _ _ _); k_dflt (first | (refine' skip_T (by k_asm) (by k_asm) (by k_asm) (by k_asm) (by k_asm) (by first | exact rfl | assumption) (by first | exact OffA.nil | k_all) (cold_now (by k_asm) (by k_asm)) (by assumption) (by assumption) (by assumption) (by ktr_room) (by ktr_units) ?_; (intro _ _ _ _ _); (try dsimp only); (try k_fold)) | (refine' skip_F (by k_asm) (by k_asm) (by k_asm) (by k_asm) (by k_asm) (by first | exact rfl | assumption) (by first | exact OffA.nil | k_all) (cold_now (by k_asm) (by k_asm)) (by assumption) (by assumption) (by assumption) (by ktr_room) (by ktr_units) ?_; (intro _ _ _ _); (try dsimp only); (try k_fold)))) | ((with_reducible show wpAny _ _ (exec (Stmt.While _ _ _ _) _) _ _ _); k_dflt (refine whl_start 100 ?_)) | ((with_reducible show wpAny _ _ (binaryOp Operator.Mult (Value.ref _) (Value.int _ _)) _ _ _); k_dflt (first | (refine' tup_mul1 (by decide) (by k_asm) (by k_mem) ?_; k_whole) | (first | refine' tup_mul2 (by decide) (by k_asm) (by k_asm) (by k_mem) ?_ | refine' tup_mul3 (by decide) (by k_asm) (by k_asm) (by k_mem) ?_ | refine' tup_mul0 (by decide) (by k_asm) (by k_asm) (by k_mem) ?_); k_whole; intro _ _ _ _ l1; (try k_lt l1); (try k_sweep))) | walk1 | (dsimp only; first | ((with_reducible show wpAny _ _ (PySem.call (Value.ref 163) _ _) _ _ _); k_dflt (first | (refine' skip_T (by k_asm) (by k_asm) (by k_asm) (by k_asm) (by k_asm) (by first | exact rfl | assumption) (by first | exact OffA.nil | k_all) (cold_now (by k_asm) (by k_asm)) (by assumption) (by assumption) (by assumption) (by ktr_room) (by ktr_units) ?_; (intro _ _ _ _ _); (try dsimp only); (try k_fold)) | (refine' skip_F (by k_asm) (by k_asm) (by k_asm) (by k_asm) (by k_asm) (by first | exact rfl | assumption) (by first | exact OffA.nil | k_all) (cold_now (by k_asm) (by k_asm)) (by assumption) (by assumption) (by assumption) (by ktr_room) (by ktr_units) ?_; (intro _ _ _ _); (try dsimp only); (try k_fold)))) | ((with_reducible show wpAny _ _ (exec (Stmt.While _ _ _ _) _) _ _ _); k_dflt (refine whl_start 100 ?_)) | ((with_reducible show wpAny _ _ (binaryOp Operator.Mult (Value.ref _) (Value.int _ _)) _ _ _); k_dflt (first | (refine' tup_mul1 (by decide) (by k_asm) (by k_mem) ?_; k_whole) | (first | refine' tup_mul2 (by decide) (by k_asm) (by k_asm) (by k_mem) ?_ | refine' tup_mul3 (by decide) (by k_asm) (by k_asm) (by k_mem) ?_ | refine' tup_mul0 (by decide) (by k_asm) (by k_asm) (by k_mem) ?_); k_whole; intro _ _ _ _ l1; (try k_lt l1); (try k_sweep))) | walk1) | (leave1; walk_say "STEP leave1"; try dsimp only) | fail "no step")
    refine EndR.sub [(_, tupObj (List.replicate 2 (.ref _)) _), (_, tupObj [.str (S "continue") _] _), (dR, rdDict h1 h2 h3 t1 t2 t3 Lt Dn ((bump pz 2 : Nat) : Int) _)] (by assumption) (by assumption)
      (sub_cons (by k_mem) (sub_cons (by k_mem) (sub_cons (by k_mem) sub_nil))) ⟨_, _, _, _, _, _, rfl, rfl, ?_, ?_⟩ <;> exact news_ne (by assumption) (by k_mem) (by k_mem) tup_ne_dict
  · obtain ⟨hw0, hw1, hw2, hw3⟩ := hW
    intro g' L' h' FG' F' N' hC' B' X' T'
    try dsimp only
    k_fold
    have hw3 : wordAt ws (pz + 1 + 1 + 1) Cs = false := hw3
    repeat' (first | (k_unfold; (try dsimp only)) | (k_end; first | kc_close | wrow_close) | ((with_reducible show wpAny _ _ (PySem.call (Value.ref 163) _ _) _ _ _); k_dflt (first | (refine' skip_T (by k_asm) (by k_asm) (by k_asm) (by k_asm) (by k_asm) (by first | exact rfl | assumption) (by first | exact OffA.nil | k_all) (cold_now (by k_asm) (by k_asm)) (by assumption) (by assumption) (by assumption) (by ktr_room) (by ktr_units) ?_; (intro _ _ _ _ _); (try dsimp only); (try k_fold)) | (refine' skip_F (by k_asm) (by k_asm) (by k_asm) (by k_asm) (by k_asm) (by first | exact rfl | assumption) (by first | exact OffA.nil | k_all) (cold_now (by k_asm) (by k_asm)) (by assumption) (by assumption) (by assumption) (by ktr_room) (by ktr_units) ?_; (intro _ _ _ _); (try dsimp only); (try k_fold)))) | ((with_reducible show wpAny _ _ (exec (Stmt.While _ _ _ _) _) _ _ _); k_dflt (refine whl_start 100 ?_)) | ((with_reducible show wpAny _ _ (binaryOp Operator.Mult (Value.ref _) (Value.int _ _)) _ _ _); k_dflt (first | (refine' tup_mul1 (by decide) (by k_asm) (by k_mem) ?_; k_whole) | (first | refine' tup_mul2 (by decide) (by k_asm) (by k_asm) (by k_mem) ?_ | refine' tup_mul3 (by decide) (by k_asm) (by k_asm) (by k_mem) ?_ | refine' tup_mul0 (by decide) (by k_asm) (by k_asm) (by k_mem) ?_); k_whole; intro _ _ _ _ l1; (try k_lt l1); (try k_sweep))) | walk1 | (dsimp only; first | ((with_reducible show wpAny _ _ (PySem.call (Value.ref 163) _ _) _ _ _); k_dflt (first | (refine' skip_T (by k_asm) (by k_asm) (by k_asm) (by k_asm) (by k_asm) (by first | exact rfl | assumption) (by first | exact OffA.nil | k_all) (cold_now (by k_asm) (by k_asm)) (by assumption) (by assumption) (by assumption) (by ktr_room) (by ktr_units) ?_; (intro _ _ _ _ _); (try dsimp only); (try k_fold)) | (refine' skip_F (by k_asm) (by k_asm) (by k_asm) (by k_asm) (by k_asm) (by first | exact rfl | assumption) (by first | exact OffA.nil | k_all) (cold_now (by k_asm) (by k_asm)) (by assumption) (by assumption) (by assumption) (by ktr_room) (by ktr_units) ?_; (intro _ _ _ _); (try dsimp only); (try k_fold)))) | ((with_reducible show wpAny _ _ (exec (Stmt.While _ _ _ _) _) _ _ _); k_dflt (refine whl_start 100 ?_)) | ((with_reducible show wpAny _ _ (binaryOp Operator.Mult (Value.ref _) (Value.int _ _)) _ _ _); k_dflt (first | (refine' tup_mul1 (by decide) (by k_asm) (by k_mem) ?_; k_whole) | (first | refine' tup_mul2 (by decide) (by k_asm) (by k_asm) (by k_mem) ?_ | refine' tup_mul3 (by decide) (by k_asm) (by k_asm) (by k_mem) ?_ | refine' tup_mul0 (by decide) (by k_asm) (by k_asm) (by k_mem) ?_); k_whole; intro _ _ _ _ l1; (try k_lt l1); (try k_sweep))) | walk1) | (leave1; walk_say "STEP leave1"; try dsimp only) | fail "no step")
    refine EndR.sub [(_, tupObj (List.replicate 3 (.ref _)) _), (_, tupObj [.str (S "continue") _] _), (dR, rdDict h1 h2 h3 t1 t2 t3 Lt Dn ((bump pz 3 : Nat) : Int) _)] (by assumption) (by assumption)
      (sub_cons (by k_mem) (sub_cons (by k_mem) (sub_cons (by k_mem) sub_nil))) ⟨_, _, _, _, _, _, rfl, rfl, ?_, ?_⟩ <;> exact news_ne (by assumption) (by k_mem) (by k_mem) tup_ne_dict
end
end
section
noncomputable def bodyD (c : Nat) : PyData := .tuple (List.replicate c (.tuple [.str (S "continue")]))
section
variable {h : Heap} {h₀ : Heap} {L b q e : Addr} {l : Led} {n n' k c : Nat} {t : Tok}
theorem reads_cont (hq : h.get? q = some (tupObj [.str (S "continue") t] n')) : Reads h (.ref q) (.tuple [.str (S "continue")]) [] :=
  reads_tuple_at hq rfl rfl (readsAll_cons_val (Reads.str _ _) ReadsAll.nil)
theorem reads_conts (hq : h.get? q = some (tupObj [.str (S "continue") t] n')) : ∀ c, ReadsAll h (List.replicate c (Value.ref q)) (List.replicate c (.tuple [.str (S "continue")])) []
  | 0 => ReadsAll.nil
  | c + 1 => readsAll_cons_val (reads_cont hq) (reads_conts hq c)
theorem reads_body (hb : h.get? b = some (tupObj (List.replicate c (.ref q)) n)) (hq : h.get? q = some (tupObj [.str (S "continue") t] n')) : Reads h (.ref b) (bodyD c) [] :=
  reads_tuple_at hb rfl rfl (by simpa using reads_conts hq c)
theorem conts_lay : ∀ c, PyData.canLayAll0 (List.replicate c (.tuple [.str (S "continue")])) = true
  | 0 => rfl
  | c + 1 => by
    rw [List.replicate_succ, PyData.canLayAll0, conts_lay c, Bool.and_true]
    decide +kernel
theorem conts_depth : ∀ c, PyData.depthAll (List.replicate c (.tuple [.str (S "continue")])) ≤ 4
  | 0 => by decide
  | c + 1 => by
    have := conts_depth c
    rw [List.replicate_succ, PyData.depthAll]
    refine Nat.max_le.mpr ⟨?_, this⟩
    decide +kernel
theorem shaped_body (c : Nat) : SeqAt.shaped (bodyD c) = true := by
  unfold SeqAt.shaped bodyD
  rw [PyData.canLay0, conts_lay, Bool.true_and, PyData.depth]
  exact decide_eq_true (by have := conts_depth c; omega)
theorem eqv_body_nil (hc : 1 ≤ c) : PyData.eqv (bodyD c) (.tuple []) = false := by
  obtain ⟨k, rfl⟩ : ∃ k, c = k + 1 := ⟨c - 1, by omega⟩
  unfold bodyD
  rw [PyData.eqv, List.replicate_succ, PyData.eqvAll]
end
section
variable {prog : Program} {w : World} {A : Around} {E : Value → Shared → Prop} {s : Shared} {Q : Value → Shared → Prop} {h₀ : Heap} {L b q e : Addr} {l : Led} {n n' k c : Nat} {t : Tok}
theorem body_eq (N : News h₀ L s.heap l) (hb : (b, tupObj (List.replicate c (.ref q)) n) ∈ l) (hq : (q, tupObj [.str (S "continue") t] n') ∈ l) (he : (e, tupObj [] k) ∈ l) (hc : 1 ≤ c) (hu : A.units + 64 < cLine) (h : Q (.bool false) s) :
    wpAny (model prog w) A (compareOp .Eq (.ref b) (.ref e)) Q E s :=
  eq_dataH (reads_body (N _ hb).1 (N _ hq).1) (reads_tuple_at (xs := []) (N _ he).1 rfl rfl ReadsAll.nil) (shaped_body c) (by decide +kernel) hu (by rw [eqv_body_nil hc]; exact h)
theorem body_eq0 (N : News h₀ L s.heap l) (hb : (b, tupObj [] n) ∈ l) (he : (e, tupObj [] k) ∈ l) (hu : A.units + 64 < cLine) (h : Q (.bool true) s) :
    wpAny (model prog w) A (compareOp .Eq (.ref b) (.ref e)) Q E s :=
  eq_dataH (reads_tuple_at (xs := []) (N _ hb).1 rfl rfl ReadsAll.nil) (reads_tuple_at (xs := []) (N _ he).1 rfl rfl ReadsAll.nil) (by decide +kernel) (by decide +kernel) hu h
end
section
variable {w : World} {A₀ : Around} {Q E : Value → Shared → Prop} {s : Shared} {h₀ base : Heap} {L : Addr} {m mg mb : PySem.Str → Option Value} {hot news cold cold' : Led} {p : Program} {loose : List PySem.Str} {mean : ExcName → Option Value}
  {dp un : Nat} {gd : Option (List Code)} {cn : PySem.Str} {cs : Scope} {a : Addr} {ccd : Value} {cl : List (PySem.Str × Addr)} {outer : List Env}
  {R dR Lt Dn : Addr} {h1 h2 h3 : Int} {t1 t2 t3 tp : Tok} {pz k c : Nat} {ki : Int} {tk : Tok} {x : PySem.Str} {tx : Tok} {ws : List (PySem.Str × PySem.Str)}
theorem take_ct (B : Below A₀ base outer h₀) (F : Fr h₀ L s.heap m) (X : (Mine.heap w.params).In h₀) (N : News h₀ L s.heap ((dR, rdDict h1 h2 h3 t1 t2 t3 Lt Dn (pz : Int) tp) :: news)) (T : Top p loose mean mg mb h₀) (hk : cs.kind = .function)
    (dn : OffA news dR) (hC : ColdAt s.heap cold) (dc : OffA cold dR) (hR : RdC cold R dR Lt ws) (hW : pz < ws.length) (hd : dp + 6 < recursionLimit) (hu : un + 48 < cLine)
    (ret : ∀ r tp' h' tk', Fr h₀ L h' m → News h₀ L h' ((dR, rdDict h1 h2 h3 t1 t2 t3 Lt Dn (((pz + 1 : Nat)) : Int) tp') :: news) → Q r { s with heap := h', toks := tk' }) :
    wpAny (model PySem.Challenge.rw_pb0257_01.row.prog w) (ktrTop dp un gd cn cs L a ccd cl outer) (call (.ref 141) [.ref R]) Q E s := by
  revert X
  k_fill
  w_on
  intro X
  refine' ct_enter (hot := [(dR, rdDict h1 h2 h3 t1 t2 t3 Lt Dn pz tp)]) (news := news) (cold := cold)
    (Post := fun tl r => ∃ tp', tl = [(dR, rdDict h1 h2 h3 t1 t2 t3 Lt Dn (((pz + 1 : Nat)) : Int) tp')])
    [(S "self", .ref R)] B F X N dn.one hC dc.one T hk ?ret ?ho ?hcd ?hroom ?hbind ?hloc ?c1 ?c2 ?c3 ?c4 ?_
  case ret =>
    rintro r tl h' tk' F' N' O' ⟨tp', rfl⟩
    exact ret r tp' h' tk' F' N'
  case ho => k_is
  case hcd => k_is
  case hroom => k_room
  case hbind => exact BindsTo.of_eq rfl
  case hloc => exact locs rfl
  case c1 => exact rfl
  case c2 => exact rfl
  case c3 => exact rfl
  case c4 => decide
  clear ret N hC
  obtain ⟨hI, vs, n, hL, hT⟩ := hR
  have hlt : (pz : Int) + 0 < (vs.length : Int) := by have := hT.len; omega
  intro g' L' h' FG' F' N' hC' B' X' T'
  try dsimp only
  k_fold
  repeat' (first | (k_unfold; (try dsimp only)) | (k_end; first | kc_close | wrow_close) | ((with_reducible show wpAny _ _ (call (Value.builtin _) [Value.ref _]) _ _ _); (with_reducible rename ToksAre _ _ _ => hTk); k_dflt (with_reducible refine' m_len (by k_asm) (by k_asm) (by with_reducible assumption) (Nat.le_trans (ToksAre.small hTk) (by decide)) ?_)) | ((with_reducible show wpAny _ _ (subscriptTail _ _ (Value.ref _) (Value.int _ _)) _ _ _); (with_reducible rename ToksAre _ _ _ => hTk); (with_unfolding_all refine' m_item (by k_asm) (by k_asm) (by with_reducible assumption) (by omega) (Nat.le_trans (ToksAre.small hTk) (by decide)) (by first | assumption | omega) ?_ (by with_unfolding_all rfl)); intro v' hv'; (obtain ⟨kd', wd', hw', ⟨a', d', q', h1', h2', h3', h4', t1', t2', t3', t4', u1', u2', u3', u4', n', hv0', hm1', hm2', hm3'⟩⟩ := ToksAre.get hTk _ _ hv'); subst hv0') | walk1 | (dsimp only; first | ((with_reducible show wpAny _ _ (call (Value.builtin _) [Value.ref _]) _ _ _); (with_reducible rename ToksAre _ _ _ => hTk); k_dflt (with_reducible refine' m_len (by k_asm) (by k_asm) (by with_reducible assumption) (Nat.le_trans (ToksAre.small hTk) (by decide)) ?_)) | ((with_reducible show wpAny _ _ (subscriptTail _ _ (Value.ref _) (Value.int _ _)) _ _ _); (with_reducible rename ToksAre _ _ _ => hTk); (with_unfolding_all refine' m_item (by k_asm) (by k_asm) (by with_reducible assumption) (by omega) (Nat.le_trans (ToksAre.small hTk) (by decide)) (by first | assumption | omega) ?_ (by with_unfolding_all rfl)); intro v' hv'; (obtain ⟨kd', wd', hw', ⟨a', d', q', h1', h2', h3', h4', t1', t2', t3', t4', u1', u2', u3', u4', n', hv0', hm1', hm2', hm3'⟩⟩ := ToksAre.get hTk _ _ hv'); subst hv0') | walk1) | (leave1; walk_say "STEP leave1"; try dsimp only) | fail "no step")
  exact EndR.sub [(dR, rdDict h1 h2 h3 t1 t2 t3 Lt Dn (((pz + 1 : Nat)) : Int) _)] (by assumption) (by assumption) (sub_cons (by with_unfolding_all k_mem) sub_nil) ⟨_, rfl⟩
theorem body_here_ct (hc : c ≤ 3) (hc1 : 1 ≤ c) (B : Below A₀ base outer h₀) (F : Fr h₀ L s.heap m) (X : (Mine.heap w.params).In h₀) (N : News h₀ L s.heap ((dR, rdDict h1 h2 h3 t1 t2 t3 Lt Dn (pz : Int) tp) :: news)) (T : Top p loose mean mg mb h₀) (hk : cs.kind = .function)
    (dn : OffA news dR) (hC : ColdAt s.heap cold) (dc : OffA cold dR) (hR : RdC cold R dR Lt ws) (hW : contW ws pz c) (hd : dp + 12 < recursionLimit) (hu : un + 96 < cLine)
    (ret : ∀ b q n n' t tp' h' tk', Fr h₀ L h' m → News h₀ L h' ((b, tupObj (List.replicate c (.ref q)) n) :: (q, tupObj [.str (S "continue") t] n') :: (dR, rdDict h1 h2 h3 t1 t2 t3 Lt Dn ((bump pz c : Nat) : Int) tp') :: news) →
      OffA (news ++ cold) b → OffA (news ++ cold) q → b ≠ dR → q ≠ dR → Q (.ref b) { s with heap := h', toks := tk' }) :
    wpAny (model PySem.Challenge.rw_pb0257_01.row.prog w) (ktrTop dp un gd cn cs L a ccd cl outer) (call (.ref 49) [.ref R, .ref 350]) Q E s := by
  revert X
  k_fill
  w_on
  intro X
  refine' ct_enter (hot := [(dR, rdDict h1 h2 h3 t1 t2 t3 Lt Dn pz tp)]) (news := news) (cold := cold)
    (Post := fun tl r => ∃ b q n n' t tp', r = .ref b ∧ tl = [(b, tupObj (List.replicate c (.ref q)) n), (q, tupObj [.str (S "continue") t] n'), (dR, rdDict h1 h2 h3 t1 t2 t3 Lt Dn ((bump pz c : Nat) : Int) tp')] ∧ b ≠ dR ∧ q ≠ dR)
    [(S "reader", .ref R), (S "read_body", .ref 350)] B F X N dn.one hC dc.one T hk ?ret ?ho ?hcd ?hroom ?hbind ?hloc ?c1 ?c2 ?c3 ?c4 ?_
  case ret =>
    rintro r tl h' tk' F' N' O' ⟨b, q, n, n', t, tp', rfl, rfl, e1, e2⟩
    exact ret b q n n' t tp' h' tk' F' N' (fun x hx => O' x hx _ (List.Mem.head _)) (fun x hx => O' x hx _ (.tail _ (.head _))) e1 e2
  case ho => k_is
  case hcd => k_is
  case hroom => k_room
  case hbind => exact BindsTo.of_eq rfl
  case hloc => exact locs rfl
  case c1 => exact rfl
  case c2 => exact rfl
  case c3 => exact rfl
  case c4 => decide
  clear ret N hC
  have hI := hR.inst
  intro g' L' h' FG' F' N' hC' B' X' T'
  try dsimp only
  k_fold
  repeat' (first | (k_unfold; (try dsimp only)) | (k_end; first | kc_close | wrow_close) | ((with_reducible show wpAny _ _ (PySem.call (Value.ref 350) _ _) _ _ _); k_dflt (refine' law_body_ct (by first | assumption | decide) (by first | assumption | decide) (by k_asm) (by k_asm) (by k_asm) (by k_asm) (by k_asm) (by first | exact rfl | assumption) (by first | exact OffA.nil | k_all) (cold_now (by k_asm) (by k_asm)) (by assumption) (by assumption) (by assumption) (by ktr_room) (by ktr_units) ?_; (intro _ _ _ _ _ _ _ _ _ _ _ _ _ _); (try dsimp only); (try k_fold))) | ((with_reducible show wpAny _ _ (compareOp CmpOp.Eq (Value.ref _) (Value.ref _)) _ _ _); k_dflt (first | refine' body_eq (by k_asm) (by k_mem) (by k_mem) (by k_mem) (by assumption) (by ktr_units) ?_ | refine' body_eq0 (by k_asm) (by k_mem) (by k_mem) (by ktr_units) ?_)) | walk1 | (dsimp only; first | ((with_reducible show wpAny _ _ (PySem.call (Value.ref 350) _ _) _ _ _); k_dflt (refine' law_body_ct (by first | assumption | decide) (by first | assumption | decide) (by k_asm) (by k_asm) (by k_asm) (by k_asm) (by k_asm) (by first | exact rfl | assumption) (by first | exact OffA.nil | k_all) (cold_now (by k_asm) (by k_asm)) (by assumption) (by assumption) (by assumption) (by ktr_room) (by ktr_units) ?_; (intro _ _ _ _ _ _ _ _ _ _ _ _ _ _); (try dsimp only); (try k_fold))) | ((with_reducible show wpAny _ _ (compareOp CmpOp.Eq (Value.ref _) (Value.ref _)) _ _ _); k_dflt (first | refine' body_eq (by k_asm) (by k_mem) (by k_mem) (by k_mem) (by assumption) (by ktr_units) ?_ | refine' body_eq0 (by k_asm) (by k_mem) (by k_mem) (by ktr_units) ?_)) | walk1) | (leave1; walk_say "STEP leave1"; try dsimp only) | fail "no step")
  exact EndR.sub [(_, tupObj (List.replicate c (.ref _)) _), (_, tupObj [.str (S "continue") _] _), (dR, rdDict h1 h2 h3 t1 t2 t3 Lt Dn ((bump pz c : Nat) : Int) _)] (by assumption) (by assumption)
    (sub_cons (by k_mem) (sub_cons (by k_mem) (sub_cons (by k_mem) sub_nil))) ⟨_, _, _, _, _, _, rfl, rfl, by assumption, by assumption⟩
end
end
section
section
variable {prog : Program} {w : World} {A : Around} {E : Value → Shared → Prop} {s : Shared} {env : Env} {h₀ : Heap} {x : PySem.Str} {body : List Stmt} {Q : Flow → Shared → Prop}
/-- a loop over a sequence that stands in the base: a word of the turn's number, the frame's map and the ledger -/
theorem loop_tup {l : Addr} {vs : List Value} {n : Nat} {m₀ : PySem.Str → Option Value} {news : Led} (J : Nat → (PySem.Str → Option Value) → Led → Prop)
    (hh : A.handled = none) (hl : h₀.get? l = some (tupObj vs n)) (F : Fr h₀ env.locals s.heap m₀) (N : News h₀ env.locals s.heap news) (hj : J 0 m₀ news)
    (turn : ∀ i v m₁ nx I it h tk, vs[i]? = some v → it.cls = .type "tuple_iterator" → J i m₁ nx → (∀ p ∈ nx, p.1 ≠ I) → Fr h₀ env.locals h (fun y => if y = x then some v else m₁ y) → News h₀ env.locals h ((I, it) :: nx) →
      wpAny (model prog w) A (execs body env) (UnrPost h₀ env.locals { s with heap := h, toks := tk } I it (J (i + 1)) Q) E { s with heap := h, toks := tk })
    (done : ∀ m₁ nx h tk, J vs.length m₁ nx → Fr h₀ env.locals h m₁ → News h₀ env.locals h nx → Q .next { s with heap := h, toks := tk }) :
    wpAny (model prog w) A (pyIter (.ref l)) (fun it s₂ => LoopAtV prog w A h₀ env x body Q E it s₂) E s := by
  have hls : s.heap.IsTuple l vs.toArray := ⟨_, F.keep _ _ hl, rfl, _, rfl⟩
  have hlt : l < h₀.objs.size := Heap.lt_size hl
  have hne : l ≠ s.heap.objs.size := Nat.ne_of_lt (Nat.lt_trans (Nat.lt_of_lt_of_le hlt F.above) F.ns.lt)
  refine wpAny_pyIter_tuple hls ?_
  have W := Walks.tuple (prog := prog) (w := w) hh s.heap.objs.size l hne vs.toArray
  have hlen : vs.toArray.size = vs.length := by simp
  rw [hlen] at W
  refine ⟨_, _, _, vs.length, _, _, m₀, news, J, rfl, W, ?_, ?_, ?_, ⟨⟨_, Heap.get?_push_size _ rfl, rfl, rfl⟩, ⟨_, Heap.get?_push_of_some _ (F.keep _ _ hl), rfl, _, rfl⟩⟩, F.push _, (fun p hp => ⟨Heap.get?_push_of_some _ (N p hp).1, (N p hp).2⟩), hj, ?_, ?_⟩
  · intro hm
    rcases List.mem_cons.mp hm with e | hm
    · exact absurd F.ns.lt (e ▸ Nat.lt_irrefl _)
    · exact absurd (Nat.lt_of_lt_of_le hlt F.above) ((List.mem_singleton.mp hm) ▸ Nat.lt_irrefl _)
  · intro b hb
    rw [List.mem_singleton.mp hb]
    exact next_is_new F
  · intro p hp hI
    exact absurd (Heap.lt_size (N p hp).1) ((List.mem_singleton.mp hI) ▸ Nat.lt_irrefl _)
  · rintro i v m₁ news₁ s₁ own ⟨hh', tk', rfl⟩ hin hP hJ hoff hown hat hmem hst F₁ N₁
    obtain ⟨⟨oi, hoi, hci⟩, _⟩ := hst
    have hI : (s.heap.objs.size, oi) ∈ own := hmem _ (.head _) (next_is_new F) oi hoi
    have N₂ : News h₀ env.locals hh' ((s.heap.objs.size, oi) :: news₁) := fun p hp => by
      rcases List.mem_cons.mp hp with rfl | hp
      · exact N₁ _ (List.mem_append_left _ hI)
      · exact N₁ _ (List.mem_append_right _ hp)
    have hv : vs[i]? = some v := by simpa using hP
    refine wpAny_mono (turn i v m₁ news₁ s.heap.objs.size oi hh' tk' hv hci.1 hJ (fun p hp e => hoff p hp (List.mem_singleton.mpr e)) F₁ N₂) (fun f s₂ p => ?_) fun _ _ e => e
    have fin : UnrEnd h₀ env.locals { s with heap := hh', toks := tk' } s.heap.objs.size oi (J (i + 1)) s₂ → LoopStepU h₀ env.locals [s.heap.objs.size] own (J (i + 1)) { s with heap := hh', toks := tk' } .next s₂ := by
      rintro ⟨h', tk, m', news', e, F', N', ho, r⟩
      refine ⟨rfl, h', tk, m', news', e, F', fun p hp => ?_, fun p hp hI => ho p hp (List.mem_singleton.mp hI), r⟩
      rcases List.mem_append.mp hp with hp | hp
      · rcases List.mem_cons.mp (hown p hp) with h1 | h1
        · have h2 : hh'.get? p.1 = some p.2 := hat p hp
          have h3 : p = (s.heap.objs.size, oi) := by
            rw [h1, hoi] at h2
            exact Prod.ext h1 (Option.some.inj h2).symm
          rw [h3]; exact N' _ (List.mem_cons_self ..)
        · have h4 : p.1 = l := List.mem_singleton.mp h1
          have h5 := (N₁ p (List.mem_append_left _ hp)).2.2
          rw [h4, hl] at h5; cases h5
      · exact N' _ (List.mem_cons_of_mem _ hp)
    cases f with
    | ret v => exact .ret p
    | brk => exact .brk p
    | next => exact .next (fin p)
    | cont => exact .cont (fin p)
  · rintro h' tk m' news' F' N' _ hJ
    exact done m' news' h' tk hJ F' N'
end
/-- the plain words: what the code does with the tokens ws from place pz -/
noncomputable def cont (ws : List (PySem.Str × PySem.Str)) (pz : Nat) : Nat := ((ws.drop pz).takeWhile fun t => t.1 == S "word" && t.2 == Cs).length
theorem wordAt_drop (ws : List (PySem.Str × PySem.Str)) (pz : Nat) (x : PySem.Str) : wordAt ws pz x = match ws.drop pz with
    | (kd, wd) :: _ => kd == S "word" && wd == x
    | [] => false := by
  unfold wordAt
  rw [← List.head?_drop]
  cases ws.drop pz with
  | nil => rfl
  | cons a r => rfl
theorem cont_zero {ws : List (PySem.Str × PySem.Str)} {pz : Nat} (h : wordAt ws pz Cs = false) : cont ws pz = 0 := by
  rw [wordAt_drop] at h
  unfold cont
  cases hd : ws.drop pz with
  | nil => rfl
  | cons a r =>
    rw [hd] at h
    obtain ⟨kd, wd⟩ := a
    dsimp only at h
    rw [List.takeWhile_cons]
    dsimp only
    rw [h]; rfl
theorem cont_succ {ws : List (PySem.Str × PySem.Str)} {pz : Nat} (h : wordAt ws pz Cs = true) : cont ws pz = cont ws (pz + 1) + 1 := by
  rw [wordAt_drop] at h
  unfold cont
  cases hd : ws.drop pz with
  | nil => rw [hd] at h; cases h
  | cons a r =>
    rw [hd] at h
    obtain ⟨kd, wd⟩ := a
    dsimp only at h
    have : ws.drop (pz + 1) = r := by rw [← List.drop_drop, hd]; rfl
    rw [List.takeWhile_cons, this]
    dsimp only
    rw [h]; rfl
theorem contW_cont {ws : List (PySem.Str × PySem.Str)} : ∀ (c pz : Nat), cont ws pz = c → contW ws pz c
  | 0, pz, h => by
    cases e : wordAt ws pz Cs with
    | false => exact e
    | true => rw [cont_succ e] at h; cases h
  | c + 1, pz, h => by
    cases e : wordAt ws pz Cs with
    | false => rw [cont_zero e] at h; cases h
    | true => rw [cont_succ e] at h; exact ⟨e, contW_cont c (pz + 1) (Nat.succ.inj h)⟩
noncomputable def opn (ws : List (PySem.Str × PySem.Str)) (pz : Nat) (k : Key) : Nat := openLen (fun i x => wordAt ws (pz + i) x) k
inductive Out where
  | ok (pz : Nat) (bs : List (Key × Nat))
  | odd (pz : Nat)
noncomputable def stepK (ws : List (PySem.Str × PySem.Str)) (o : Out) (k : Key) : Out := match o with
  | .odd p => .odd p
  | .ok pz bs => if opn ws pz k = 0 then .ok pz bs else if cont ws (pz + opn ws pz k) = 0 then .odd (pz + opn ws pz k) else .ok (pz + opn ws pz k + cont ws (pz + opn ws pz k)) (bs ++ [(k, cont ws (pz + opn ws pz k))])
theorem fold_odd (ws : List (PySem.Str × PySem.Str)) (p : Nat) : ∀ ks : List Key, ks.foldl (stepK ws) (.odd p) = .odd p
  | [] => rfl
  | _ :: r => fold_odd ws p r
/-- every word that an opening counts stands in the tokens -/
theorem wordAt_lt {ws : List (PySem.Str × PySem.Str)} {i : Nat} {x : PySem.Str} (h : wordAt ws i x = true) : i < ws.length := by
  unfold wordAt at h
  cases e : ws[i]? with
  | none => rw [e] at h; cases h
  | some a => exact (List.getElem?_eq_some_iff.mp e).1
theorem stepW_le {W : Nat → PySem.Str → Bool} {m a : Nat} {x : PySem.Str} (hW : ∀ i x, W i x = true → i < m) (ha : a ≤ m) : stepW W a x ≤ m ∧ stepW W a x ≤ a + 1 := by
  unfold stepW
  split
  · rename_i h; have := hW _ _ h; omega
  · omega
theorem foldW_le {W : Nat → PySem.Str → Bool} {m : Nat} (hW : ∀ i x, W i x = true → i < m) : ∀ (l : List PySem.Str) (a : Nat), a ≤ m → l.foldl (stepW W) a ≤ m ∧ l.foldl (stepW W) a ≤ a + l.length
  | [], a, h => ⟨h, Nat.le_refl _⟩
  | x :: r, a, h => by
    have h1 := stepW_le (x := x) hW h
    have h2 := foldW_le hW r _ h1.1
    rw [List.foldl_cons, List.length_cons]
    omega
theorem needW_le {W : Nat → PySem.Str → Bool} {m : Nat} (hW : ∀ i x, W i x = true → i < m) : ∀ (l : List PySem.Str) (a b : Nat), a ≤ m → needW W a l = some b → b ≤ m ∧ b ≤ a + l.length
  | [], a, b, h, e => by cases e; exact ⟨h, Nat.le_refl _⟩
  | x :: r, a, b, h, e => by
    unfold needW at e
    split at e
    · rename_i hx
      have h1 := hW _ _ hx
      have h2 := needW_le hW r (a + 1) b h1 e
      rw [List.length_cons]; omega
    · cases e
theorem bareLen_le {W : Nat → PySem.Str → Bool} {m a : Nat} {e n l : List PySem.Str} (hW : ∀ i x, W i x = true → i < m) (ha : a ≤ m) : bareLen W a e n l ≤ m ∧ bareLen W a e n l ≤ a + e.length + n.length + l.length := by
  unfold bareLen
  have h1 := foldW_le hW e a ha
  cases hn : needW W (e.foldl (stepW W) a) n with
  | none => exact ⟨Nat.zero_le _, Nat.zero_le _⟩
  | some b =>
    have h2 := needW_le hW n _ b h1.1 hn
    have h3 := foldW_le hW l b h2.1
    dsimp only
    omega
theorem openLen_le {W : Nat → PySem.Str → Bool} {m : Nat} (hW : ∀ i x, W i x = true → i < m) (k : Key) : openLen W k ≤ m ∧ openLen W k ≤ 4 := by
  have h0 := fun (e n l : List PySem.Str) => bareLen_le (e := e) (n := n) (l := l) hW (Nat.zero_le m)
  have h1 : ∀ (e n l : List PySem.Str), W 0 (S "NOT") = true → bareLen W 1 e n l ≤ m ∧ bareLen W 1 e n l ≤ 1 + e.length + n.length + l.length := fun e n l h => bareLen_le hW (by have := hW _ _ h; omega)
  cases k <;> simp only [openLen]
  · have := h0 [S "ON"] [S "SIZE", S "ERROR"] []; simp only [List.length_cons, List.length_nil] at this; omega
  · split
    · rename_i h; have := h1 [S "ON"] [S "SIZE", S "ERROR"] [] h; simp only [List.length_cons, List.length_nil] at this; omega
    · omega
  · have := h0 [S "ON"] [S "OVERFLOW"] []; simp only [List.length_cons, List.length_nil] at this; omega
  · split
    · rename_i h; have := h1 [S "ON"] [S "OVERFLOW"] [] h; simp only [List.length_cons, List.length_nil] at this; omega
    · omega
  · have := h0 [S "AT"] [S "END"] []; simp only [List.length_cons, List.length_nil] at this; omega
  · split
    · rename_i h; have := h1 [S "AT"] [S "END"] [] h; simp only [List.length_cons, List.length_nil] at this; omega
    · omega
  · have := h0 [] [S "INVALID"] [S "KEY"]; simp only [List.length_cons, List.length_nil] at this; omega
  · split
    · rename_i h; have := h1 [] [S "INVALID"] [S "KEY"] h; simp only [List.length_cons, List.length_nil] at this; omega
    · omega
  · split
    · rename_i h
      have h2 := hW _ _ h
      have h3 := stepW_le (x := S "ON") hW (Nat.zero_le m)
      omega
    · have := h0 [S "ON"] [S "EXCEPTION"] []; simp only [List.length_cons, List.length_nil] at this; omega
  · split
    · rename_i h; have := h1 [S "ON"] [S "EXCEPTION"] [] h; simp only [List.length_cons, List.length_nil] at this; omega
    · omega
theorem opn_le (ws : List (PySem.Str × PySem.Str)) (pz : Nat) (k : Key) (hz : pz ≤ ws.length) : pz + opn ws pz k ≤ ws.length ∧ opn ws pz k ≤ 4 := by
  have := openLen_le (W := fun i x => wordAt ws (pz + i) x) (m := ws.length - pz) (fun i x h => by have := wordAt_lt h; omega) k
  unfold opn
  omega
theorem opn_lt {ws : List (PySem.Str × PySem.Str)} {pz : Nat} (hl : ∀ i x, wordAt ws i x = true → i + 1 < ws.length) (k : Key) (hz : pz < ws.length) : pz + opn ws pz k < ws.length ∧ opn ws pz k ≤ 4 := by
  have := openLen_le (W := fun i x => wordAt ws (pz + i) x) (m := ws.length - 1 - pz) (fun i x h => by have := hl _ _ h; omega) k
  unfold opn
  omega
theorem contW_lt {ws : List (PySem.Str × PySem.Str)} (hl : ∀ i x, wordAt ws i x = true → i + 1 < ws.length) : ∀ (c pz : Nat), contW ws pz c → pz < ws.length → pz + c < ws.length
  | 0, _, _, h => h
  | c + 1, pz, ⟨h1, h2⟩, _ => by
    have := contW_lt hl c (pz + 1) h2 (hl _ _ h1)
    omega
theorem cont_lt {ws : List (PySem.Str × PySem.Str)} {pz : Nat} (hl : ∀ i x, wordAt ws i x = true → i + 1 < ws.length) (hz : pz < ws.length) : pz + cont ws pz < ws.length := contW_lt hl _ _ (contW_cont _ _ rfl) hz
end
section
/-- the frames of a stack -/
noncomputable abbrev frs (l : List Env) : List Addr := l.filterMap (·.frame)
/-- between two heaps only the frames' slots turned (and what is hot) -/
structure Turned (fs hot : List Addr) (h h' : Heap) : Prop where
  size : h.objs.size ≤ h'.objs.size
  off : ∀ b o, h.get? b = some o → b ∉ fs → b ∉ hot → h'.get? b = some o
  on : ∀ b o, h.get? b = some o → b ∈ fs → b ∉ hot → ∃ sl, h'.get? b = some { o with slots := sl }
/-- a fault in flight: made behind h; its dict tells the place -/
structure Thrown (h : Heap) (h' : Heap) (e : Addr) (ln : Nat) : Prop where
  new : h.objs.size ≤ e
  there : ∃ (oe : Obj) (vs : Array Value) (T : Addr) (oT : Obj) (ts : Array Value) (dx q : Addr) (k1 k2 : Int) (u1 u2 u3 u4 : Tok) (v : Value) (n : Nat) (tq : Obj),
    h'.get? e = some oe ∧ oe.cls = .ref 95 ∧ oe.dict = some dx ∧ oe.data = .fields vs ∧ vs[1]? = some (.ref T) ∧ h.objs.size ≤ T ∧ T ≠ e ∧ h'.get? T = some oT ∧ oT.data = .fields ts ∧ ts[3]? = some .none ∧
    h.objs.size ≤ dx ∧ h'.get? dx = some (dictOf [⟨k1, .str (S "what") u1, v⟩, ⟨k2, .str (S "at") u2, .ref q⟩] 2) ∧ h'.get? q = some tq ∧ tq.cls = .type "tuple" ∧ tq.data = .seq #[.int ((ln : Int) + 1) u3, .int 12 u4] n
noncomputable def EndE (g : Heap) (s : Shared) (Post : Led → Value → Prop) (EPost : Heap → Addr → Heap → Prop) (r : Result) (s' : Shared) : Prop := match r with
  | .ok (.ret v) => ∃ tl h' tk L' m', s' = { s with heap := h', toks := tk } ∧ Fr g L' h' m' ∧ News g L' h' tl ∧ Post tl v
  | .error v => ∃ e h' tk, v = .ref e ∧ s' = { s with heap := h', toks := tk } ∧ EPost g e h'
  | _ => False
theorem EndE.sub {g : Heap} {s : Shared} {Post : Led → Value → Prop} {EPost : Heap → Addr → Heap → Prop} {v : Value} {h' : Heap} {tk : Nat} {L' : Addr} {m' : PySem.Str → Option Value} (tl : Led) {all : Led} (F : Fr g L' h' m') (N : News g L' h' all) (hs : ∀ q ∈ tl, q ∈ all) (P : Post tl v) : EndE g s Post EPost (.ok (.ret v)) { s with heap := h', toks := tk } :=
  ⟨tl, h', tk, L', m', rfl, F, fun q hq => N q (hs q hq), P⟩
section
variable {prog : Program} {w : World} {A A₀ : Around} {E : Value → Shared → Prop} {s : Shared} {K : Frag} {h₀ base : Heap} {L : Addr} {m mg mb : PySem.Str → Option Value} {hot news cold : Led} {p : Program} {loose : List PySem.Str} {mean : ExcName → Option Value}
/-- the same, and of the base: what it is -/
theorem code_splitG {env : Env} {outer : List Env} {R : Result → Shared → Prop} {name qual : PySem.Str} {params : Arguments} {body : List Stmt} {scope : Scope} {dV kV doc pm cdv ct oc : Value} {an od : Option Addr} {osl : Array (Option Value)} {f : Addr} {args : Args} {binds : List (PySem.Str × Value)}
    (B : Below A₀ base outer h₀) (F : Fr h₀ L s.heap m) (X₀ : K.In h₀) (N : News h₀ L s.heap hot) (T : Top p loose mean mg mb h₀) (hA : A.frames = some (env :: outer)) (hf : env.frame = some L) (hke : env.scope.kind = .function)
    (ho : K.lookup f = some ⟨oc, od, .func (fnOf name qual params body scope dV kV doc pm an cdv ct), osl⟩) (hcd : codeIn K cdv qual = true) (hroom : A.depth < recursionLimit)
    (hbind : BindsTo s (fnOf name qual params body scope dV kV doc pm an cdv ct) args binds) (hloc : ∀ y ∈ binds, scope.names.lookup y.1 = some .local)
    (h : ∀ g L' h₁, g.objs.size = s.heap.objs.size → (∀ b o, s.heap.get? b = some o → b ∉ hot.map (·.1) → g.get? b = some o) → Fr h₀ L g m → Fr g L' h₁ (fun y => binds.reverse.lookup y) → News g L' h₁ hot → Below A base (env :: outer) g → K.In g → Top p loose mean mg mb g →
      wpAny (model prog w) (A.deeper (envX qual scope L' f cdv [])) (execs body (envX qual scope L' f cdv []))
        (fun fl s' => LeaveK h₀ L m g R (match fl with | .ret v => v | _ => .none) s')
        (fun e s' => wpAny (model prog w) (A.deeper (envX qual scope L' f cdv [])) (leaving (envX qual scope L' f cdv []) e) (fun _ s'' => R (.error e) s'') (fun e' s'' => R (.error e') s'') s')
        { s with heap := h₁, toks := s.toks + binds.length })
    (hco : scope.isCoroutine = false) (hgen : scope.isGenerator = false) (hk : scope.kind = .function)
    (hcell : ∀ x ∈ scope.names, x.2 ≠ .cell) : codeAny (model prog w) A (.call (.ref f) args) R s := by
  obtain ⟨FG, BG, st, lv⟩ := groundX (R := R) B F N hA hf hke
  have X := X₀.keeps F.keep
  refine codeAny_call_def (fd := fnX name qual params body scope [] dV kV doc pm an cdv ct) (body := body) (binds := binds) hroom (X _ _ ho) rfl (T.nolimit.keeps F.keep) (codeRec_of X hcd) rfl hbind hcell hloc (fun h₁ hns hk₁ => ?_) hco hgen hk
  exact wpAny_mono (h _ s.heap.objs.size h₁ (hideAll_size _ _) (fun b o e hb => hideAll_get _ e hb) FG ⟨hns, fun b o e => hk₁ b o (of_hideAll _ e), Nat.le_of_eq (hideAll_size _ _)⟩
    (fun q hq => ⟨hk₁ _ _ (N q hq).1, Nat.ne_of_lt (Heap.lt_size (N q hq).1), hideAll_none _ (List.mem_map_of_mem hq)⟩) BG (X₀.keeps st) (T.keeps st)) (fun fl s' hl => lv _ _ hl) fun _ _ y => y
end
section
variable {w : World} {A₀ : Around} {Q E : Value → Shared → Prop} {s : Shared} {h₀ base : Heap} {L : Addr} {m mg mb : PySem.Str → Option Value} {hot news cold : Led} {p : Program} {loose : List PySem.Str} {mean : ExcName → Option Value}
  {dp un : Nat} {gd : Option (List Code)} {cn : PySem.Str} {cs : Scope} {a : Addr} {ccd : Value} {cl : List (PySem.Str × Addr)} {outer : List Env}
theorem ct_enterE {Z : Prop} {Post : Led → Value → Prop} {name qual : PySem.Str} {params : Arguments} {body : List Stmt} {scope : Scope} {dV kV doc pm cdv ct oc : Value} {an od : Option Addr} {osl : Array (Option Value)} {f : Addr} {vs : List Value} {ln : Nat} (binds : List (PySem.Str × Value))
    (B : Below A₀ base outer h₀) (F : Fr h₀ L s.heap m) (X₀ : (Mine.heap w.params).In h₀) (N : News h₀ L s.heap (hot ++ news)) (dn : Off news hot) (hC : ColdAt s.heap cold) (dc : Off cold hot) (T : Top p loose mean mg mb h₀) (hke : cs.kind = .function)
    (ret : ∀ r tl h' tk', Fr h₀ L h' m → News h₀ L h' (tl ++ news) → Off (news ++ cold) tl → Post tl r → Q r { s with heap := h', toks := tk' })
    (retE : ∀ e h' tk', Turned (frs (envX cn cs L a ccd cl :: outer)) (hot.map (·.1)) s.heap h' → Thrown s.heap h' e ln → Z → E (.ref e) { s with heap := h', toks := tk' })
    (ho : (Mine.heap w.params).lookup f = some ⟨oc, od, .func (fnOf name qual params body scope dV kV doc pm an cdv ct), osl⟩) (hcd : codeIn (Mine.heap w.params) cdv qual = true) (hroom : (ktrTop dp un gd cn cs L a ccd cl outer).depth < recursionLimit)
    (hbind : BindsTo s (fnOf name qual params body scope dV kV doc pm an cdv ct) ⟨vs, []⟩ binds) (hloc : ∀ y ∈ binds, scope.names.lookup y.1 = some .local)
    (hco : scope.isCoroutine = false) (hgen : scope.isGenerator = false) (hk : scope.kind = .function) (hcell : ∀ x ∈ scope.names, x.2 ≠ .cell)
    (h : ∀ g L' h₁, Fr h₀ L g m → Fr g L' h₁ (fun y => binds.reverse.lookup y) → News g L' h₁ hot → ColdAt g cold → Below (ktrTop dp un gd cn cs L a ccd cl outer) base (envX cn cs L a ccd cl :: outer) g → (Mine.heap w.params).In g → Top p loose mean mg mb g →
      wpAny (model PySem.Challenge.rw_pb0257_01.row.prog w) ((ktrTop dp un gd cn cs L a ccd cl outer).deeper (envX qual scope L' f cdv [])) (execs body (envX qual scope L' f cdv []))
        (fun fl s' => LeaveK h₀ L m g (EndE g s Post fun g e h' => Turned (frs (envX cn cs L a ccd cl :: outer)) [] g h' ∧ Thrown g h' e ln ∧ Z) (match fl with | .ret v => v | _ => .none) s')
        (fun e s' => wpAny (model PySem.Challenge.rw_pb0257_01.row.prog w) ((ktrTop dp un gd cn cs L a ccd cl outer).deeper (envX qual scope L' f cdv [])) (leaving (envX qual scope L' f cdv []) e)
          (fun _ s'' => (EndE g s Post fun g e h' => Turned (frs (envX cn cs L a ccd cl :: outer)) [] g h' ∧ Thrown g h' e ln ∧ Z) (.error e) s'') (fun e' s'' => (EndE g s Post fun g e h' => Turned (frs (envX cn cs L a ccd cl :: outer)) [] g h' ∧ Thrown g h' e ln ∧ Z) (.error e') s'') s')
        { s with heap := h₁, toks := s.toks + binds.length }) :
    wpAny (model PySem.Challenge.rw_pb0257_01.row.prog w) (ktrTop dp un gd cn cs L a ccd cl outer) (call (.ref f) vs) Q E s := by
  have N1 : News h₀ L s.heap hot := fun q hq => N q (List.mem_append_left _ hq)
  have N2 : News h₀ L s.heap news := fun q hq => N q (List.mem_append_right _ hq)
  have out : ∀ q ∈ news ++ cold, q.1 ∉ hot.map (·.1) := fun q hq hm => by
    obtain ⟨r, hr, e⟩ := List.mem_map.mp hm
    rcases List.mem_append.mp hq with hq | hq
    · exact dn q hq r hr e.symm
    · exact dc q hq r hr e.symm
  have hC2 : ColdAt s.heap (news ++ cold) := fun q hq => (List.mem_append.mp hq).elim (fun hq => (N2 q hq).1) (hC q)
  refine wpAny_call (codeAny_mono (code_splitG (R := fun r s' => ∃ g : Heap, g.objs.size = s.heap.objs.size ∧ (∀ b o, s.heap.get? b = some o → b ∉ hot.map (·.1) → g.get? b = some o) ∧ h₀.StaysIn g ∧ (∃ o, g.get? L = some o) ∧ (EndE g s Post fun g e h' => Turned (frs (envX cn cs L a ccd cl :: outer)) [] g h' ∧ Thrown g h' e ln ∧ Z) r s' ∧ ((∃ f, r = .ok f) → Fr h₀ L s'.heap m)) B F X₀ N1 T (env := envX cn cs L a ccd cl) rfl rfl hke ho hcd hroom hbind hloc ?_ hco hgen hk hcell) ?_)
  · intro g L' h₁ hgs hg FG F' N' B' X' T'
    obtain ⟨oL, _, _, hL, _⟩ := FG.ns
    refine wpAny_mono (h g L' h₁ FG F' N' (fun q hq => hg _ _ (hC q hq) (out q (List.mem_append_right _ hq))) B' X' T') (fun fl s' hl => ?_) (fun e s' he => ?_)
    · obtain ⟨L₂, m₂, n₂, F₂, M₂, k⟩ := hl
      exact ⟨L₂, m₂, n₂, F₂, M₂, fun kF kN => ⟨g, hgs, hg, FG.keep, ⟨_, hL⟩, k kF kN, fun _ => kF⟩⟩
    · exact wpAny_mono he (fun _ s'' z => ⟨g, hgs, hg, FG.keep, ⟨_, hL⟩, z, fun ⟨_, x⟩ => nomatch x⟩) (fun _ s'' z => ⟨g, hgs, hg, FG.keep, ⟨_, hL⟩, z, fun ⟨_, x⟩ => nomatch x⟩)
  · intro r s' hr
    obtain ⟨g, hgs, hg, st, ⟨oL, hL⟩, e, kF⟩ := hr
    cases r with
    | error v =>
      obtain ⟨e', h', tk, rfl, rfl, tu, th, zz⟩ := e
      refine retE e' h' tk ⟨hgs ▸ tu.size, fun b o ho hf hb => tu.off b o (hg b o ho hb) hf (fun x => nomatch x), fun b o ho hf hb => tu.on b o (hg b o ho hb) hf (fun x => nomatch x)⟩ ?_ zz
      obtain ⟨t1, th⟩ := th
      rw [hgs] at t1 th
      exact ⟨t1, th⟩
    | ok f =>
      cases f with
      | ret v =>
        obtain ⟨tl, h', tk, L', m', rfl, F', N', P⟩ := e
        have C' : ∀ q ∈ news ++ cold, g.get? q.1 = some q.2 := fun q hq => hg _ _ (hC2 q hq) (out q hq)
        refine ret v tl h' tk (kF ⟨_, rfl⟩) (fun q hq => ?_) (fun q hq r hr ee => ?_) P
        · rcases List.mem_append.mp hq with hq | hq
          · refine ⟨(N' q hq).1, fun ee => ?_, ?_⟩
            · have := (N' q hq).2.2; rw [ee, hL] at this; cases this
            · cases z : h₀.get? q.1 with
              | none => rfl
              | some o => have := (N' q hq).2.2; rw [st _ _ z] at this; cases this
          · exact ⟨F'.keep _ _ (C' q (List.mem_append_left _ hq)), (N2 q hq).2⟩
        · have := (N' r hr).2.2; rw [← ee, C' q hq] at this; cases this
      | _ => exact e.elim
end
end
section
inductive Pick (x : Addr × Obj) : Led → Led → Prop where
  | here {l : Led} : Pick x (x :: l) l
  | there {y : Addr × Obj} {l r : Led} : Pick x l r → Pick x (y :: l) (y :: r)
theorem Pick.mem {x : Addr × Obj} {l r : Led} (P : Pick x l r) : x ∈ l := by
  induction P with
  | here => exact List.mem_cons_self
  | there _ ih => exact List.mem_cons_of_mem _ ih
theorem Pick.sub {x : Addr × Obj} {l r : Led} (P : Pick x l r) : ∀ q ∈ r, q ∈ l := by
  induction P with
  | here => exact fun q hq => List.mem_cons_of_mem _ hq
  | there _ ih => exact fun q hq => (List.mem_cons.mp hq).elim (fun e => e ▸ List.mem_cons_self) fun hq => List.mem_cons_of_mem _ (ih q hq)
theorem Pick.news {x : Addr × Obj} {l r : Led} {h₀ h : Heap} {L : Addr} (P : Pick x l r) (N : News h₀ L h l) : News h₀ L h (x :: r) := fun q hq =>
  (List.mem_cons.mp hq).elim (fun e => e ▸ N _ P.mem) fun hq => N _ (P.sub q hq)
noncomputable def NoCls (c : Value) (l : Led) : Prop := ∀ q ∈ l, q.2.cls ≠ c
theorem NoCls.nil {c : Value} : NoCls c [] := fun _ h => nomatch h
theorem NoCls.cons {c : Value} {q : Addr × Obj} {l : Led} (h : q.2.cls ≠ c) (r : NoCls c l) : NoCls c (q :: l) := fun x hx => (List.mem_cons.mp hx).elim (fun e => e ▸ h) (r x)
noncomputable def AllTup (l : Led) : Prop := ∀ q ∈ l, q.2.cls = .type "tuple"
theorem AllTup.no {l : Led} {c : Value} (h : AllTup l) (hc : Value.type "tuple" ≠ c) : NoCls c l := fun q hq e => hc ((h q hq).symm.trans e)
theorem Pick.off {x : Addr × Obj} {l r : Led} {h₀ h : Heap} {L : Addr} (P : Pick x l r) (N : News h₀ L h l) (hn : NoCls x.2.cls r) : OffA r x.1 := fun q hq e => by
  have h1 := (N _ (P.sub q hq)).1
  have h2 := (N _ P.mem).1
  rw [e, h2] at h1
  exact hn q hq (congrArg Obj.cls (Option.some.inj h1)).symm
theorem cls_ne {a b : String} (h : (a == b) = false) : (Value.type a : Value) ≠ .type b := fun e => by
  cases Value.type.inj e
  rw [beq_self_eq_true] at h; cases h
theorem cls_ne' {o : Obj} {a b : String} (e : o.cls = .type a) (h : (a == b) = false) : o.cls ≠ .type b := e ▸ cls_ne h
theorem cls_to {o : Obj} {x c : Value} (e : o.cls = c) (h : x ≠ c) : x ≠ o.cls := e ▸ h
theorem ref_ne {C : Addr} {b : String} : (Value.ref C : Value) ≠ .type b := fun e => nomatch e
theorem type_ne_ref {C : Addr} {b : String} : (Value.type b : Value) ≠ .ref C := fun e => nomatch e
theorem AllTup.noRef {l : Led} {C : Addr} (h : AllTup l) : NoCls (.ref C) l := h.no type_ne_ref
end
section
section
variable {M : Model} {A : Around} {E : Value → Shared → Prop} {s : Shared}
/-- what one entry of a traceback leaves: all but the exception and the frames as it was, the exception as it was but for its record -/
structure Noted (fs : List Addr) (e : Addr) (oe : Obj) (h h' : Heap) : Prop where
  size : h.objs.size ≤ h'.objs.size
  off : ∀ b o, h.get? b = some o → b ≠ e → b ∉ fs → h'.get? b = some o
  on : ∀ b o, h.get? b = some o → b ∈ fs → ∃ sl, h'.get? b = some { o with slots := sl }
  trace : ∀ vs : Array Value, oe.data = .fields vs → ∃ (T : Addr) (oT : Obj) (ts vs' : Array Value), h.objs.size ≤ T ∧ T ≠ e ∧ h'.get? e = some { oe with data := .fields vs' } ∧ vs'[0]? = vs[0]? ∧ vs'[1]? = some (.ref T) ∧ h'.get? T = some oT ∧ oT.data = .fields ts ∧ ts[3]? = some .none
theorem entry_noted {base : Heap} {env : Env} {outer : List Env} {L e : Addr} {oe : Obj} {vs : Array Value} {head : Value} {hadNext : Bool} {Q : Unit → Shared → Prop}
    (hfr : A.frames = some (env :: outer)) (hl : s.heap.FunFrames base (env :: outer)) (hf : env.frame = some L)
    (he : s.heap.get? e = some oe) (hd : oe.data = .fields vs) (hsz : 1 < vs.size)
    (h : ∀ h', Noted (frs (env :: outer)) e oe s.heap h' → Q () { s with heap := h' }) :
    wpAny M A (do let a ← frameOf env; let pl ← entryPlaceOf L hadNext; let b ← EntryCells.newEntry head a .none (rawInt L) .none pl; setField (.ref e) 1 b) (fun _ s' => wpAny M A (setFlight (.ref e) none) Q E s') E s := by
  have hene : e ∉ frs (env :: outer) := fun hm => by
    obtain ⟨_, o, ho, hnf⟩ := hl.mem hm
    rw [he] at ho; injection ho with ho; subst ho; exact hnf vs hd
  refine wpAny_bind (wpAny_frameOf_fun hfr hl hf fun h₁ hs₁ => ?_)
  refine wpAny_bind (wpAny_entryPlaceOf fun pl hpl => ?_)
  unfold EntryCells.newEntry newFields
  refine wpAny_bind (wpAny_newObj_type ?_ (hpl.sizeOk5 _ _ _ _ _))
  have he₁ : h₁.get? e = some oe := (hs₁.2.1 e hene).trans he
  generalize hTo : ({ cls := .type "traceback", dict := none, data := .fields ([head, .ref L, .none, rawInt L, .none] ++ (if pl.isEmpty then List.replicate 6 Value.none else pl)).toArray } : Obj) = tb
  have hdt : tb.data = .fields ([head, .ref L, .none, rawInt L, .none] ++ (if pl.isEmpty then List.replicate 6 Value.none else pl)).toArray := by rw [← hTo]
  have hft : tb.isFreed = false := Obj.isFreed_of_fields hdt
  have he₂ := Heap.get?_push_of_some (h := h₁) tb he₁
  refine wpAny_setField he₂ hd hsz ?_
  have hTe : h₁.objs.size ≠ e := Nat.ne_of_gt (Heap.lt_size he₁)
  have hd₃ := Obj.data_mapFields hd (·.setIfInBounds 1 (Value.ref h₁.objs.size))
  have he₃ := Heap.get?_update_self (Obj.mapFields (·.setIfInBounds 1 (Value.ref h₁.objs.size))) he₂ (Obj.isFreed_of_fields hd₃)
  have hT₃ := (Heap.get?_update_other (h₁.push tb) (Obj.mapFields (·.setIfInBounds 1 (Value.ref h₁.objs.size))) (Ne.symm hTe)).trans (Heap.get?_push_size h₁ hft)
  unfold setFlight
  refine wpAny_bind (wpAny_field he₃ hd₃ (x := .ref h₁.objs.size) (by simp [hsz]) ?_)
  rw [if_pos (show (Value.ref h₁.objs.size != Value.none) = true from by simp)]
  refine wpAny_setField hT₃ hdt (by simp only [List.size_toArray, List.length_append, List.length_cons, List.length_nil] <;> omega) (h _ ?_)
  have keep : ∀ b o, b ≠ e → h₁.get? b = some o →
      (((h₁.push tb).update e (Obj.mapFields (·.setIfInBounds 1 (Value.ref h₁.objs.size)))).update h₁.objs.size (Obj.mapFields (·.setIfInBounds 3 ((none : Option Addr).elim Value.none fun f => rawInt f)))).get? b = some o := fun b o hbe hb => by
    have hbT : h₁.objs.size ≠ b := Nat.ne_of_gt (Heap.lt_size hb)
    rw [Heap.get?_update_other _ _ hbT, Heap.get?_update_other _ _ (Ne.symm hbe)]
    exact Heap.get?_push_of_some _ hb
  have hnone : s.heap.objs.size ≤ h₁.objs.size := Nat.le_of_eq hs₁.1.symm
  have hsize : s.heap.objs.size ≤ (((h₁.push tb).update e (Obj.mapFields (·.setIfInBounds 1 (Value.ref h₁.objs.size)))).update h₁.objs.size (Obj.mapFields (·.setIfInBounds 3 ((none : Option Addr).elim Value.none fun f => rawInt f)))).objs.size := by
    rw [Heap.size_update, Heap.size_update, PySem.Heap.size_push]; omega
  refine ⟨hsize, fun b o hb hbe hbf => keep b o hbe ((hs₁.2.1 b hbf).trans hb), fun b o hb hbf => ?_, fun vs' hvs => ?_⟩
  · obtain ⟨sl, hsl⟩ := hs₁.2.2 b o hb
    exact ⟨sl, keep b _ (fun q => hene (q ▸ hbf)) hsl⟩
  · rw [hd] at hvs; cases hvs
    refine ⟨h₁.objs.size, _, _, vs.setIfInBounds 1 (Value.ref h₁.objs.size), hnone, hTe, ?_, by rw [Array.getElem?_setIfInBounds_ne (by decide)], by simp [hsz], Heap.get?_update_self _ hT₃ (Obj.isFreed_of_fields (Obj.data_mapFields hdt _)), Obj.data_mapFields hdt _, by first | (simp; done) | (rcases hpl with rfl | ⟨_, _, _, _, _, _, _, rfl⟩ <;> simp)⟩
    rw [Heap.get?_update_other _ _ hTe, he₃]
    obtain ⟨oc, od, oda, osl⟩ := oe
    cases hd
    rfl
theorem leaving_first {base : Heap} {env : Env} {outer : List Env} {L e : Addr} {oe : Obj} {vs : Array Value} {Q : Unit → Shared → Prop}
    (hfr : A.frames = some (env :: outer)) (hl : s.heap.FunFrames base (env :: outer)) (hf : env.frame = some L)
    (he : s.heap.get? e = some oe) (hd : oe.data = .fields vs) (h1 : vs[1]? = some .none)
    (h : ∀ h', Noted (frs (env :: outer)) e oe s.heap h' → Q () { s with heap := h' }) : wpAny M A (leaving env (.ref e)) Q E s := by
  unfold leaving noteFrame
  simp only [hf]
  refine wpAny_bind (wpAny_bind (wpAny_field he hd h1 ?_))
  rw [if_neg (by decide)]
  exact entry_noted hfr hl hf he hd (Array.getElem?_eq_some_iff.mp h1).1 h
theorem leaving_next {base : Heap} {env : Env} {outer : List Env} {L e T : Addr} {oe oT : Obj} {vs ts : Array Value} {Q : Unit → Shared → Prop}
    (hfr : A.frames = some (env :: outer)) (hl : s.heap.FunFrames base (env :: outer)) (hf : env.frame = some L)
    (he : s.heap.get? e = some oe) (hd : oe.data = .fields vs) (h1 : vs[1]? = some (.ref T)) (hTe : T ≠ e) (hT : s.heap.get? T = some oT) (hdT : oT.data = .fields ts) (h3 : ts[3]? = some .none)
    (h : ∀ h₀ h', (∀ b o, s.heap.get? b = some o → b ≠ T → h₀.get? b = some o) → Noted (frs (env :: outer)) e oe h₀ h' → h₀.objs.size = s.heap.objs.size → Q () { s with heap := h' }) : wpAny M A (leaving env (.ref e)) Q E s := by
  unfold leaving noteFrame
  simp only [hf]
  refine wpAny_bind (wpAny_bind (wpAny_field he hd h1 ?_))
  rw [if_pos (show (Value.ref T != Value.none) = true from by simp)]
  refine wpAny_bind (wpAny_field hT hdT h3 ?_)
  rw [if_neg (show ¬ ((Value.none == rawInt L) = true) from by simp [rawInt])]
  refine wpAny_bind (wpAny_setField hT hdT (Array.getElem?_eq_some_iff.mp h3).1 ?_)
  have other : ∀ b, b ≠ T → (s.heap.update T (Obj.mapFields (·.setIfInBounds 3 Value.none))).get? b = s.heap.get? b := fun b hb => Heap.get?_update_other _ _ (Ne.symm hb)
  have noRecord : ∀ b o, s.heap.get? b = some o → (∀ vs, o.data ≠ .fields vs) → b ≠ T := fun b o hb hnf q => by
    rw [q, hT] at hb; injection hb with hb; subst hb; exact hnf ts hdT
  refine entry_noted hfr (hl.of_keeps fun b o hb hnf => ⟨o, (other b (noRecord b o hb hnf)).trans hb, rfl⟩) hf ((other e (Ne.symm hTe)).trans he) hd (Array.getElem?_eq_some_iff.mp h1).1 fun h' hN => ?_
  refine h _ h' (fun b o hb hbT => (other b hbT).trans hb) hN (Heap.size_update _ _ _)
end
section
variable {M : Model} {A A1 : Around} {E : Value → Shared → Prop} {s : Shared} {base g hc : Heap} {env : Env} {outer : List Env} {L' dR e : Addr} {m' : PySem.Str → Option Value} {l : Led} {o : Obj} {ln : Nat} {Q : Unit → Shared → Prop}
theorem frames_turned {h h' base : Heap} : ∀ {l : List Env}, h.FunFrames base l → (∀ b ∈ frs l, ∀ o, h.get? b = some o → ∃ o', h'.get? b = some o' ∧ o'.data = o.data) → h'.FunFrames base l
  | [], _, _ => trivial
  | env :: r, ⟨hk, ⟨L, o, hf, hn, ho, hd⟩, hr⟩, k => by
    have hm : L ∈ frs (env :: r) := List.mem_filterMap.mpr ⟨env, .head _, hf⟩
    obtain ⟨o', ho', hd'⟩ := k L hm o ho
    refine ⟨hk, ⟨L, o', hf, hn, ho', by rw [hd']; exact hd⟩, frames_turned hr fun b hb o hbo => k b ?_ o hbo⟩
    obtain ⟨e, he, hfe⟩ := List.mem_filterMap.mp hb
    exact List.mem_filterMap.mpr ⟨e, .tail _ he, hfe⟩
theorem frs_cons {env : Env} {l : List Env} {L b : Addr} (hf : env.frame = some L) (h : b ∈ frs (env :: l)) : b = L ∨ b ∈ frs l := by
  obtain ⟨e, he, hfe⟩ := List.mem_filterMap.mp h
  rcases List.mem_cons.mp he with rfl | he
  · exact .inl (Option.some.inj (hf.symm.trans hfe)).symm
  · exact .inr (List.mem_filterMap.mpr ⟨e, he, hfe⟩)
/-- a fault passes through a frame -/
theorem leave_on (B : Below A1 base outer g) (F : Fr g L' hc m') (N : News g L' hc l) (hd : (dR, o) ∈ l) (hA : A.frames = some (env :: outer)) (hf : env.frame = some L') (hke : env.scope.kind = .function)
    (tu : Turned (frs (env :: outer)) [dR] hc s.heap) (th : Thrown hc s.heap e ln)
    (hQ : ∀ h2, Turned (frs outer) [] g h2 → Thrown g h2 e ln → Q () { s with heap := h2 }) : wpAny M A (leaving env (.ref e)) Q E s := by
  obtain ⟨hnew, oe, vs, T, oT, ts, dx, q, k1, k2, u1, u2, u3, u4, v, n, tq, x1, x2, x3, x4, x5, x6, x7, x8, x9, x10, x11, x12, x13, x14, x15⟩ := th
  have hfr0 := (pushX B F hf hke).frames
  have hgs : g.objs.size ≤ hc.objs.size := Nat.le_trans F.above (Nat.le_of_lt F.ns.lt)
  have gL : ∀ b o, g.get? b = some o → b ≠ L' := fun b o hb q => absurd (Nat.lt_of_lt_of_le (Heap.lt_size hb) F.above) (by rw [q]; exact Nat.lt_irrefl _)
  have gD : ∀ b o, g.get? b = some o → b ≠ dR := fun b o hb q => by
    have := (N _ hd).2.2; rw [show ((dR, _) : Addr × Obj).1 = dR from rfl, ← q, hb] at this; cases this
  have dL : dR ≠ L' := (N _ hd).2.1
  have frD : ∀ b ∈ frs (env :: outer), b ∉ [dR] := fun b hb hm => by
    have e1 := List.mem_singleton.mp hm
    rcases frs_cons hf hb with e2 | e2
    · exact dL (e1.symm.trans e2)
    · obtain ⟨o', ho', _⟩ := (B.frames.mem e2).2
      exact gD b o' ho' e1
  have hfr1 : s.heap.FunFrames base (env :: outer) := frames_turned hfr0 fun b hb o ho => by
    obtain ⟨sl, hs⟩ := tu.on b o ho hb (frD b hb)
    exact ⟨_, hs, rfl⟩
  refine leaving_next hA hfr1 hf x1 x4 x5 x7 x8 x9 x10 fun h₀ h' keep NT hsz => ?_
  have lt_of : ∀ b o, g.get? b = some o → b < hc.objs.size := fun b o hb => Nat.lt_of_lt_of_le (Heap.lt_size hb) hgs
  have neT : ∀ b o, g.get? b = some o → b ≠ T := fun b o hb => Nat.ne_of_lt (Nat.lt_of_lt_of_le (lt_of b o hb) x6)
  have nee : ∀ b o, g.get? b = some o → b ≠ e := fun b o hb => Nat.ne_of_lt (Nat.lt_of_lt_of_le (lt_of b o hb) hnew)
  have frs_at : ∀ b o, s.heap.get? b = some o → (∀ ws, o.data ≠ .fields ws) → b ≠ T := fun b o hb hn q => by rw [q, x8] at hb; cases hb; exact hn _ x9
  refine hQ h' ⟨?_, fun b o hb hbf _ => ?_, fun b o hb hbf _ => ?_⟩ ⟨Nat.le_trans hgs hnew, ?_⟩
  · have := tu.size; have := NT.size; omega
  · have hnf : b ∉ frs (env :: outer) := fun hm => (frs_cons hf hm).elim (gL b o hb) hbf
    have h1 := tu.off b o (F.keep _ _ hb) hnf (fun hm => gD b o hb (List.mem_singleton.mp hm))
    exact NT.off b o (keep b o h1 (neT b o hb)) (nee b o hb) hnf
  · have hin : b ∈ frs (env :: outer) := by
      obtain ⟨e', he', hfe⟩ := List.mem_filterMap.mp hbf
      exact List.mem_filterMap.mpr ⟨e', .tail _ he', hfe⟩
    obtain ⟨sl, h1⟩ := tu.on b o (F.keep _ _ hb) hin (fun hm => gD b o hb (List.mem_singleton.mp hm))
    obtain ⟨sl', h2⟩ := NT.on b _ (keep b _ h1 (neT b o hb)) hin
    exact ⟨sl', h2⟩
  · obtain ⟨T', oT', ts', vs', y1, y2, y3, y4, y5, y6, y7, y8⟩ := NT.trace vs x4
    have hts := tu.size
    have dictN : ∀ b o, s.heap.get? b = some o → b ≠ e → (∀ ws, o.data ≠ .fields ws) → ∃ sl, h'.get? b = some { o with slots := sl } := fun b o hb hbe hn => by
      by_cases hm : b ∈ frs (env :: outer)
      · exact NT.on b o (keep b o hb (frs_at b o hb hn)) hm
      · exact ⟨o.slots, NT.off b o (keep b o hb (frs_at b o hb hn)) hbe hm⟩
    have dxe : dx ≠ e := fun q => by rw [q, x1] at x12; cases x12; cases x4
    have hqn : ∀ ws, tq.data ≠ .fields ws := fun ws hw => by rw [x15] at hw; cases hw
    have qe : q ≠ e := fun q' => by rw [q', x1] at x13; cases x13; exact hqn _ x4
    have nfr : ∀ b, hc.objs.size ≤ b → b ∉ frs (env :: outer) := fun b hb hm => by
      obtain ⟨o', ho', _⟩ := (hfr0.mem hm).2
      exact absurd (Heap.lt_size ho') (Nat.not_lt.mpr hb)
    obtain ⟨slq, hq⟩ := dictN q _ x13 qe hqn
    refine ⟨_, vs', T', oT', ts', dx, q, k1, k2, u1, u2, u3, u4, v, n, _, y3, x2, x3, rfl, y5, by omega, y2, y6, y7, y8, Nat.le_trans hgs x11, ?_, hq, x14, x15⟩
    exact NT.off dx _ (keep dx _ x12 (frs_at dx _ x12 fun ws hw => nomatch hw)) dxe (nfr dx x11)
end
end
section
section
variable {M : Model} {A A1 : Around} {E : Value → Shared → Prop} {s : Shared} {base g gg : Heap} {env : Env} {outer : List Env} {L' dR e t dx q : Addr} {m' : PySem.Str → Option Value} {l : Led} {o tq : Obj} {ln n : Nat} {k1 k2 : Int} {u1 u2 u3 u4 : Tok} {v : Value} {Q : Unit → Shared → Prop}
theorem size_le (h : gg.objs.size ≤ e) (F : Fr g L' gg m') : g.objs.size ≤ e := Nat.le_trans (Nat.le_trans F.above (Nat.le_of_lt F.ns.lt)) h
/-- a fault leaves the frame that raised it -/
theorem leave_made (B : Below A1 base outer g) (F : Fr g L' s.heap m') (N : News g L' s.heap l) (me : (e, ({ cls := .ref 95, dict := some dx, data := .fields #[.ref t, .none, .none, .none, .bool false, .none] } : Obj)) ∈ l)
    (md : (dx, dictOf [⟨k1, .str (S "what") u1, v⟩, ⟨k2, .str (S "at") u2, .ref q⟩] 2) ∈ l) (hq : g.get? q = some tq) (hqc : tq.cls = .type "tuple") (hqd : tq.data = .seq #[.int ((ln : Int) + 1) u3, .int 12 u4] n) (sz : g.objs.size ≤ e) (hed : e < dx)
    (hA : A.frames = some (env :: outer)) (hf : env.frame = some L') (hke : env.scope.kind = .function)
    (hQ : ∀ h2, Turned (frs outer) [] g h2 → Thrown g h2 e ln → Q () { s with heap := h2 }) : wpAny M A (leaving env (.ref e)) Q E s := by
  have hfr0 := (pushX B F hf hke).frames
  have hgs : g.objs.size ≤ s.heap.objs.size := Nat.le_trans F.above (Nat.le_of_lt F.ns.lt)
  have gL : ∀ b o, g.get? b = some o → b ≠ L' := fun b o hb q => absurd (Nat.lt_of_lt_of_le (Heap.lt_size hb) F.above) (by rw [q]; exact Nat.lt_irrefl _)
  have he := (N _ me).1
  have hdx := (N _ md).1
  refine leaving_first hA hfr0 hf he rfl rfl fun h' NT => ?_
  have nee : ∀ b o, g.get? b = some o → b ≠ e := fun b o hb => Nat.ne_of_lt (Nat.lt_of_lt_of_le (Heap.lt_size hb) sz)
  have hin : ∀ b, b ∈ frs outer → b ∈ frs (env :: outer) := fun b hbf => by
    obtain ⟨e', he', hfe⟩ := List.mem_filterMap.mp hbf
    exact List.mem_filterMap.mpr ⟨e', .tail _ he', hfe⟩
  refine hQ h' ⟨?_, fun b o hb hbf _ => ?_, fun b o hb hbf _ => ?_⟩ ⟨sz, ?_⟩
  · have := NT.size; omega
  · exact NT.off b o (F.keep _ _ hb) (nee b o hb) fun hm => (frs_cons hf hm).elim (gL b o hb) hbf
  · exact NT.on b o (F.keep _ _ hb) (hin b hbf)
  · obtain ⟨T', oT', ts', vs', y1, y2, y3, y4, y5, y6, y7, y8⟩ := NT.trace _ rfl
    have dictN : ∀ b o, s.heap.get? b = some o → b ≠ e → ∃ sl, h'.get? b = some { o with slots := sl } := fun b o hb hbe => by
      by_cases hm : b ∈ frs (env :: outer)
      · exact NT.on b o hb hm
      · exact ⟨o.slots, NT.off b o hb hbe hm⟩
    have ndx : dx ∉ frs (env :: outer) := fun hm => by
      rcases frs_cons hf hm with h1 | h1
      · exact (N _ md).2.1 h1
      · obtain ⟨o', ho', _⟩ := (B.frames.mem h1).2
        have := (N _ md).2.2
        rw [show ((dx, dictOf [⟨k1, .str (S "what") u1, v⟩, ⟨k2, .str (S "at") u2, .ref q⟩] 2) : Addr × Obj).1 = dx from rfl, ho'] at this
        cases this
    obtain ⟨slq, hq'⟩ := dictN q _ (F.keep _ _ hq) (nee q _ hq)
    refine ⟨_, vs', T', oT', ts', dx, q, k1, k2, u1, u2, u3, u4, v, n, _, y3, rfl, rfl, rfl, y5, Nat.le_trans hgs y1, y2, y6, y7, y8, Nat.le_trans sz (Nat.le_of_lt hed), ?_, hq', hqc, hqd⟩
    exact NT.off dx _ hdx (Nat.ne_of_gt hed) ndx
end
end
section
section
open PySem.Sem PySem.Builtin
noncomputable abbrev gfMro : List Value := [.ref 82, .type "Exception", .type "BaseException", .type "object"]
noncomputable abbrev excObj (t : Addr) : Obj := { cls := .ref 95, data := .fields #[.ref t, .none, .none, .none, .bool false, .none] }
section
variable {M : Model} {A : Around} {E : Value → Shared → Prop} {h : Heap} {g : Array GenState} {d : Drawn} {t : Nat} {os : OsState}
variable {nm q : PySem.Str} {C N : Addr} {bs : List Value} {hdct : Bool} {sn : List PySem.Str} {sub : List Value} {ab : Bool} {col : Option Bool} {dd : Option Addr} {k0 k1 k2 k3 k5 : Option Value}
theorem gf_check_new {rest : List Value} {Q : Unit → Shared → Prop} (hC : h.get? 95 = some (excClassObj nm q 95 N bs gfMro hdct sn sub ab col dd k0 k1 k2 k3 k5 "Exception.__new__"))
    (hq : Q () ⟨h, g, d, t, os⟩) : wpAny M A (checkBuiltinCall "Exception.__new__" ⟨.ref 95 :: rest, []⟩) Q E ⟨h, g, d, t, os⟩ := by
  have F := PySem.F.excBase_Exception
  have hcont : (Value.ref 95 :: gfMro).contains (.type "Exception") = true := by decide +kernel
  have hstar := F.noStar
  simp only [checkBuiltinCall, F.newKind, F.newSplit, F.newRow]
  repeat (first | refine wpAny_loadPart_at hC ?_ | (refine wpAny_isSubtype_exc hC ?_; rw [hcont]) | refine wpAny_staticBase_exc hC ?_ | refine wpAny_madeBy_exc hC ?_ | simp only [bne_self_eq_false, Bool.false_eq_true, if_false] | wp_step)
  exact hq
end
section
variable {prog : Program} {w : World} {A : Around} {R : Result → Shared → Prop} {E : Value → Shared → Prop} {h : Heap} {g : Array GenState} {d : Drawn} {t : Nat} {os : OsState}
variable {nm q : PySem.Str} {C N : Addr} {bs : List Value} {hdct : Bool} {sn : List PySem.Str} {sub : List Value} {ab : Bool} {col : Option Bool} {dd : Option Addr} {k0 k1 k2 k3 k5 : Option Value}
theorem gf_new {rest : List Value} (hC : h.get? 95 = some (excClassObj nm q 95 N bs gfMro hdct sn sub ab col dd k0 k1 k2 k3 k5 "Exception.__new__"))
    (hq : R (.ok (.ret (.ref (h.objs.size + 1)))) ⟨(h.push { cls := .type "tuple", data := .seq rest.toArray }).push (excObj h.objs.size), g, d, t, os⟩) (hrest : rest.length ≤ sizeLine) :
    codeAny (model prog w) A (.builtin "Exception.__new__" ⟨.ref 95 :: rest, []⟩) R ⟨h, g, d, t, os⟩ := by
  have F := PySem.F.excBase_Exception
  have hends := F.ends
  have hcB : (Value.ref 95 :: gfMro).contains (.type "Exception") = true := by decide +kernel
  have hcA : (Value.ref 95 :: gfMro).contains (.type "AttributeError") = false := by decide +kernel
  have hcN : (Value.ref 95 :: gfMro).contains (.type "NameError") = false := by decide +kernel
  refine codeAny_builtinAt F.entry ?_
  unfold Builtin.«BaseException.__new__»
  refine PySem.wpAt_bind ?_
  show PySem.wpAt _ _ _ (stack >>= _) _ _ _
  refine PySem.wpAt_bind (PySem.wpAt_stack fun p below => PySem.wpAt_of_wpAny ?_)
  wp_walk
  refine PySem.wpAt_of_wpAny ?_
  rw [F.owner]
  repeat (first | with_reducible refine wpAny_madeHere_exc F.canon hC ?_ | with_reducible refine wpAny_loadPart_at hC ?_ | (with_reducible refine wpAny_isSubtype_exc hC ?_; first | rw [hcB] | rw [hcA] | rw [hcN]) | wp_step)
  show R _ _
  rw [PySem.Heap.size_push]
  exact hq
theorem gf_type_call {rest : List Value} {Q : Fin → Shared → Prop}
    (hC : h.get? 95 = some (excClassObj nm q 95 N bs gfMro hdct sn sub ab col dd k0 k1 k2 k3 k5 "Exception.__new__"))
    (hlook : ∀ h', (∀ b o, h.get? b = some o → h'.get? b = some o) → Looks (model prog w) h' (typeLookup (.ref 95) (PySem.Str.ofString "__init__")) (some (.ref 72)))
    {oI : Obj} (hfI : h.get? 72 = some oI) (hfc : oI.cls = .type "function")
    (hq : wpAny (model prog w) A (call (.ref 72) (.ref (h.objs.size + 1) :: rest)) (fun r s' => r = .none ∧ Q (.done (.ret (.ref (h.objs.size + 1)))) s') E ⟨(h.push { cls := .type "tuple", data := .seq rest.toArray }).push (excObj h.objs.size), g, d, t, os⟩) (hrest : rest.length ≤ sizeLine) :
    wpAny (model prog w) A (Builtin.«type.__call__» ⟨.ref 95 :: rest, []⟩) Q E ⟨h, g, d, t, os⟩ := by
  have F := PySem.F.excBase_Exception
  repeat (first | with_reducible refine wpAny_loadPart_at hC ?_ | with_reducible refine wpAny_madeBy_exc hC ?_ | wp_step)
  refine codeAny_call_builtin_code (Code.quiet_builtin _ F.quiet) (gf_check_new hC ?_)
  refine gf_new hC ?_ hrest
  show wpAny _ _ _ _ _ _
  have hC₁ := Heap.get?_push_of_some (excObj h.objs.size) (Heap.get?_push_of_some { cls := .type "tuple", data := .seq rest.toArray } hC)
  have hfI₁ := Heap.get?_push_of_some (excObj h.objs.size) (Heap.get?_push_of_some { cls := .type "tuple", data := .seq rest.toArray } hfI)
  have hget : ((h.push { cls := .type "tuple", data := .seq rest.toArray }).push (excObj h.objs.size)).get? (h.objs.size + 1) = some (excObj h.objs.size) := Heap.get?_push_at (by rw [PySem.Heap.size_push]) rfl
  have hcC : (Value.ref 95 :: gfMro).contains (.ref 95) = true := by decide +kernel
  unfold isInstance
  repeat (first | with_reducible refine wpAny_loadPart_at hget ?_ | (with_reducible refine wpAny_isSubtype_exc hC₁ ?_; rw [hcC]) | wp_step)
  show wpAny _ _ (typeLookup (.ref 95) _) _ _ _
  refine hlook _ (fun b o hb => Heap.get?_push_of_some _ (Heap.get?_push_of_some _ hb)) _ _ _ _ (fun b o e => e) ?_
  refine wpAny_holding (wpAny_bind ?_)
  unfold bindSpecial
  refine wpAny_bind (wpAny_typeOf (T := "function") ⟨_, hfI₁, hfc⟩ ?_)
  rw [if_pos (by decide)]
  refine wpAny_pure (wpAny_bind (wpAny_mono hq (fun r s' hr => ?_) fun _ _ x => x))
  obtain ⟨rfl, hQ⟩ := hr
  wp_walk
  exact hQ
theorem gf_call {rest : List Value} {Q : Value → Shared → Prop}
    (hC : h.get? 95 = some (excClassObj nm q 95 N bs gfMro hdct sn sub ab col dd k0 k1 k2 k3 k5 "Exception.__new__"))
    (hlook : ∀ h', (∀ b o, h.get? b = some o → h'.get? b = some o) → Looks (model prog w) h' (typeLookup (.ref 95) (PySem.Str.ofString "__init__")) (some (.ref 72)))
    {oI : Obj} (hfI : h.get? 72 = some oI) (hfc : oI.cls = .type "function")
    (hq : wpAny (model prog w) (A.under (.builtin "type.__call__" ⟨.ref 95 :: rest, []⟩)) (call (.ref 72) (.ref (h.objs.size + 1) :: rest)) (fun r s' => r = .none ∧ Q (.ref (h.objs.size + 1)) s') E ⟨(h.push { cls := .type "tuple", data := .seq rest.toArray }).push (excObj h.objs.size), g, d, t, os⟩) (hrest : rest.length ≤ sizeLine) :
    wpAny (model prog w) A (call (.ref 95) rest) Q E ⟨h, g, d, t, os⟩ := by
  have f1 := tc_lookup
  have f2 := tc_bind (.ref 95)
  have hT : (⟨h, g, d, t, os⟩ : Shared).TypeIs (.ref 95) "type" := ⟨_, hC, rfl⟩
  refine wpAny_call (codeAny_of_tree ?_)
  show wpAny _ _ (callAny (.ref 95) _) _ _ _
  repeat (any_goals (first | assumption | with_reducible refine wpAny_loadPart_at hC ?_ | wp_step))
  refine ⟨rfl, ?_⟩
  refine codeAny_call_builtin_at (Code.quiet_builtin _ (by decide +kernel)) entry_typeCall (wpAny_check_type_call_sub hC (gf_type_call hC hlook hfI hfc ?_ hrest))
  exact hq
end
end
end
section
section
variable {w : World} {A : Around} {E Q : Value → Shared → Prop} {s : Shared} {h₀ : Heap} {L : Addr} {m : PySem.Str → Option Value} {news : Led} {args : List Value}
theorem gf_use (F : Fr h₀ L s.heap m) (X₀ : (Mine.heap w.params).In h₀) (N : News h₀ L s.heap news) (ha : args.length ≤ 100)
    (h : ∀ t e h', Fr h₀ L h' m → News h₀ L h' ((e, excObj t) :: (t, tupObj args 0) :: news) → (∀ p ∈ news, p.1 < t) → t < e → h₀.objs.size ≤ e →
      wpAny (model PySem.Challenge.rw_pb0257_01.row.prog w) (A.under (.builtin "type.__call__" ⟨.ref 95 :: args, []⟩)) (call (.ref 72) (.ref e :: args)) (fun r s' => r = .none ∧ Q (.ref e) s') E { s with heap := h' }) :
    wpAny (model PySem.Challenge.rw_pb0257_01.row.prog w) A (call (.ref 95) args) Q E s := by
  revert X₀
  k_fill
  intro X₀
  have X := X₀.keeps F.keep
  have i95 : findIn (Mine.heap w.params) (.ref 95) "__init__" = some (some (.ref 72)) := by k_is
  obtain ⟨hh, g, d, t, os⟩ := s
  refine gf_call (X 95 _ (by k_is)) (fun h' k => looks_findIn (X.keeps k) i95) (X 72 _ (by k_is)) rfl ?_ (by rw [sizeLine_eq]; omega)
  have F1 : Fr h₀ L (hh.push { cls := .type "tuple", data := .seq args.toArray }) m := F.push _
  have N1 := News.push F N { cls := .type "tuple", data := .seq args.toArray }
  have N2 := News.push F1 N1 (excObj hh.objs.size)
  have e1 : (hh.push { cls := .type "tuple", data := .seq args.toArray }).objs.size = hh.objs.size + 1 := PySem.Heap.size_push _ _
  rw [e1] at N2
  exact h hh.objs.size (hh.objs.size + 1) _ (F1.push _) N2 (fun p hp => Heap.lt_size (N p hp).1) (Nat.lt_succ_self _) (by
    have h1 := F.above
    have h2 := F.ns.lt
    have h3 : h₀.objs.size ≤ hh.objs.size := Nat.le_trans h1 (Nat.le_of_lt h2)
    omega)
end
end
section
section
open PySem.Sem PySem.Builtin
variable {prog : Program} {w : World} {A : Around} {E : Value → Shared → Prop} {h : Heap} {g : Array GenState} {d : Drawn} {t : Nat} {os : OsState}
variable {nm q : PySem.Str} {C N : Addr} {bs : List Value} {hdct : Bool} {sn : List PySem.Str} {sub : List Value} {ab : Bool} {col : Option Bool} {dd : Option Addr} {k0 k1 k2 k3 k5 : Option Value}
theorem gf_check_init {M : Model} {e : Addr} {oe : Obj} {rest : List Value} {Q : Unit → Shared → Prop}
    (hC : h.get? 95 = some (excClassObj nm q 95 N bs gfMro hdct sn sub ab col dd k0 k1 k2 k3 k5 "Exception.__new__")) (he : h.get? e = some oe) (hcls : oe.cls = .ref 95) (hq : Q () ⟨h, g, d, t, os⟩) :
    wpAny M A (checkBuiltinCall "Exception.__init__" ⟨.ref e :: rest, []⟩) Q E ⟨h, g, d, t, os⟩ := by
  have F := PySem.F.excBase_Exception
  have hcB : (Value.ref 95 :: gfMro).contains (.type "Exception") = true := by decide +kernel
  have hshort := F.noStar
  simp only [checkBuiltinCall, F.initKind, F.initSplit, F.initRow]
  repeat (first | (with_reducible refine wpAny_loadPart_at he ?_; rw [hcls]) | with_reducible refine wpAny_loadPart_at hC ?_ | (with_reducible refine wpAny_isSubtype_exc hC ?_; rw [hcB]) | wp_step)
  refine wpAny_onRaise ?_
  rw [show ∀ (a b : String) (n : Nat), Bind.check ⟨.positional, "*", "Exception", .self, [⟨"args", .varPos, false⟩]⟩ a b n (List.map (fun x => x.fst) ({ pos := Value.ref e :: rest } : Args).kw) = pure () from
    fun a b n => check_star_args _ _ _ _ _ _]
  exact wpAny_pure hq
theorem gf_init {e t0 : Addr} {v : Value} {Q : Value → Shared → Prop}
    (hC : h.get? 95 = some (excClassObj nm q 95 N bs gfMro hdct sn sub ab col dd k0 k1 k2 k3 k5 "Exception.__new__")) (he : h.get? e = some (excObj t0))
    (hq : ∀ f : Obj → Obj, (f (excObj t0) = excObj h.objs.size) → Q .none ⟨(h.push (tupObj [v] 0)).update e f, g, d, t, os⟩) :
    wpAny (model prog w) A (call (.builtin "Exception.__init__") [.ref e, v]) Q E ⟨h, g, d, t, os⟩ := by
  have F := PySem.F.excBase_Exception
  refine wpAny_call (codeAny_call_builtin F.init.plain F.initEntry (gf_check_init hC he rfl ?_))
  have he1 := Heap.get?_push_of_some (tupObj [v] 0) he
  wp_walk
  refine hq _ ?_
  rfl
end
theorem meta_Exception : typeOf (.type "Exception") = pure (.type "type") := by kernel_rfl
section
variable {w : World} {A : Around} {E Q : Value → Shared → Prop} {s : Shared} {h₀ : Heap} {L e t0 : Addr} {m : PySem.Str → Option Value} {all rest : Led} {v : Value}
theorem gf_init_use (F : Fr h₀ L s.heap m) (X₀ : (Mine.heap w.params).In h₀) (N : News h₀ L s.heap ((e, excObj t0) :: rest)) (off : OffA rest e)
    (h : ∀ t' h', Fr h₀ L h' m → News h₀ L h' ((e, excObj t') :: (t', tupObj [v] 0) :: rest) → (∀ p ∈ (e, excObj t0) :: rest, p.1 < t') → Q .none { s with heap := h' }) :
    wpAny (model PySem.Challenge.rw_pb0257_01.row.prog w) A (call (.builtin "Exception.__init__") [.ref e, v]) Q E s := by
  revert X₀
  k_fill
  intro X₀
  have X := X₀.keeps F.keep
  obtain ⟨hh, g, d, t, os⟩ := s
  refine gf_init (X 95 _ (by k_is)) (N _ (.head _)).1 fun f hf => ?_
  have F1 : Fr h₀ L (hh.push (tupObj [v] 0)) m := F.push _
  have N1 := News.push F N (tupObj [v] 0)
  obtain ⟨F2, N2⟩ := news_upd (pre := [(hh.objs.size, tupObj [v] 0)]) (d := e) (post := rest) (o := excObj t0) (f := f) (o' := excObj hh.objs.size) F1 N1
    (fun p hp => by rw [List.mem_singleton.mp hp]; exact Nat.ne_of_gt (Heap.lt_size (N _ (.head _)).1)) off hf rfl
  refine h hh.objs.size _ F2 (fun q hq => N2 q ?_) (fun p hp => Heap.lt_size (N p hp).1)
  rcases List.mem_cons.mp hq with rfl | hq
  · exact .tail _ (.head _)
  rcases List.mem_cons.mp hq with rfl | hq
  · exact .head _
  · exact .tail _ (.tail _ hq)
end
end
section
section
open PySem.Builtin PySem.Builtin.Object PySem.Builtin.ObjectAttr
variable {w : World} {A : Around} {E : Value → Shared → Prop} {s : Shared} {h₀ : Heap} {L e dx : Addr} {m : PySem.Str → Option Value} {all rest : Led} {v : Value} {ox : Obj} {od : Option Obj} {name : PySem.Str} {tk : Tok} {R : Result → Shared → Prop} {K : Frag} {cd : ClassData}
/-- object.__setattr__ upon a GrammarFault, by its own dict -/
theorem gf_osa {prog : Program} (X : K.In s.heap) (I : InstAt s.heap e ox 95 od) (hc : clsIn K 95 = some cd) (hm : cd.mro = .ref 95 :: gfMro) (ht : findIn K (.ref 95) name = some none)
    (h : wpAny (model prog w) A.in1 (storeInOwnDict (.ref e) (.ref 95) (.str name tk) name v false)
      (fun fin s' => match fin with | .done f => R (.ok f) s' | .again c' => c'.quiet = true ∧ codeAny (model prog w) A c' R s') (fun e s' => R (.error e) s') s) :
    codeAny (model prog w) A (.call (.builtin "object.__setattr__") ⟨[.ref e, .str name tk, v], []⟩) R s := by
  have SF := PySem.F.store_object
  have SE := PySem.F.store_Exception
  have hmro : Looks (model prog w) s.heap (mroOf (.ref 95)) cd.mro := (looks_clsIn X hc).andThen .now
  have sub : Looks (model prog w) s.heap (isInstance (.ref e) (.type "object")) true := I.type.andThen (looks_mroIn X (by
    unfold mroIn; rw [hc, Option.bind_some, hm]
    decide +kernel))
  refine codeAny_call_builtin SF.slot.plain SF.entry (@check_slot (model prog w) _ _ s "object.__setattr__" "object" "__setattr__" (.ref e) [.str name tk, v] [] _ SF.kind SF.split sub (SF.args (.ref e) (.str name tk) v) ?_)
  have L3 : Looks (model prog w) s.heap (storeTaker? none) none := .now
  rw [osa_eq, refuse_eq]
  refine wpAny_bind (wpAny_bind (I.type.here (wpAny_bind (hmro.here ?_))))
  rw [hm, refuseLoop_ref, refuseLoop_ref, SE.passes]
  exact wpAny_pure (wpAny_bind (I.type.here (wpAny_bind ((looks_findIn X ht).here (wpAny_bind (L3.here h))))))
/-- the second half of a store: a key that the dict may lack -/
theorem gf_store {prog : Program} {es es' : List DictEntry} {n n' : Nat} {Q : Fin → Shared → Prop} (F : Fr h₀ L s.heap m) (N : News h₀ L s.heap ((dx, dictOf es n) :: rest)) (off : OffA rest dx)
    (hr : es.any (·.refKey) = false) (he : (putL name (PyData.keyHash w.params name) (.str name s.toks) v es, putN name es n) = (es', n')) (hz : es'.length ≤ 1000)
    (h : ∀ h', Fr h₀ L h' m → News h₀ L h' ((dx, dictOf es' n') :: rest) → Q (.done (.ret .none)) { s with heap := h', toks := s.toks + 1 }) :
    wpAny (model prog w) A (storeInDict dx (.str name tk) name v) Q E s := by
  obtain ⟨e1, e2⟩ := Prod.mk.inj he
  obtain ⟨U1, U2⟩ := news_upd (pre := []) (f := Obj.putName name (PyData.keyHash w.params name) (.str name s.toks) v) (o' := dictOf es' n') F N (fun _ hp => nomatch hp) off (by rw [putName_dict, e1, e2]) rfl
  have D := (N (dx, _) (.head _)).1
  have D' := (U2 (dx, dictOf es' n') (.head _)).1
  unfold storeInDict
  refine wpAny_bind (wpAny_pure (wpAny_bind ?_))
  unfold nsSet
  refine wpAny_bind (wpAny_bind (wpAny_askSetting (wpAny_pure (wpAny_bind (wpAny_mkText (wpAny_bind (wpAny_loadPart D ?_)))))))
  dsimp only
  have c : (!es.toArray.any (·.key.isStr name) && es.toArray.any (·.refKey)) = false := by
    rw [← Array.any_toList, ← Array.any_toList, hr, Bool.and_false]
  rw [aRefKeyMayBeTheName_at, c]
  refine wpAny_updatePart D ?_
  refine wpAny_bind (wpAny_lookBehind D' (pastItsLine_dict (by rw [List.size_toArray, sizeLine_eq]; omega)) ?_)
  exact wpAny_pure (h _ U1 U2)
end
end
section
noncomputable abbrev excObjD (t dx : Addr) : Obj := { cls := .ref 95, dict := some dx, data := .fields #[.ref t, .none, .none, .none, .bool false, .none] }
section
open PySem.Builtin PySem.Builtin.Object PySem.Builtin.ObjectAttr
variable {w : World} {A : Around} {E : Value → Shared → Prop} {s : Shared} {h₀ : Heap} {L e dx t0 : Addr} {m : PySem.Str → Option Value} {all rest : Led} {v : Value} {name : PySem.Str} {Q : Unit → Shared → Prop} {K : Frag} {cd : ClassData}
theorem gf_own1 {prog : Program} {Q : Fin → Shared → Prop} {tk : Tok} (F : Fr h₀ L s.heap m) (X₀ : K.In h₀) (N : News h₀ L s.heap ((e, excObj t0) :: rest)) (off : OffA rest e) (hc : clsIn K 95 = some cd) (hd : cd.hasDict = true)
    (hq : ∀ dx h' tk tk', Fr h₀ L h' m → News h₀ L h' ((dx, dictOf [⟨PyData.keyHash w.params name, .str name tk, v⟩] 1) :: (e, excObjD t0 dx) :: rest) → e < dx → (∀ p ∈ rest, p.1 < dx) → Q (.done (.ret .none)) { s with heap := h', toks := tk' }) :
    wpAny (model prog w) A (storeInOwnDict (.ref e) (.ref 95) (.str name tk) name v false) Q E s := by
  have X := X₀.keeps F.keep
  have hx := (N (e, _) (.head _)).1
  unfold storeInOwnDict
  refine wpAny_bind (wpAny_pure (wpAny_bind ?_))
  unfold ownDictForStores instanceDict
  refine wpAny_bind (wpAny_loadPart hx (wpAny_bind ((looks_clsIn X hc).here ?_)))
  rw [hd]
  dsimp only
  refine wpAny_bind (wpAny_alloc ?_)
  have F1 : Fr h₀ L (s.heap.push (dictOf [] 0)) m := F.push _
  have N1 := News.push F N (dictOf [] 0)
  have hx1 := (N1 (e, excObj t0) (.tail _ (.head _))).1
  have ne : s.heap.objs.size ≠ e := Nat.ne_of_gt (Heap.lt_size hx)
  obtain ⟨F2, N2⟩ := news_upd (pre := [(s.heap.objs.size, dictOf [] 0)]) (d := e) (post := rest) (o := excObj t0) (f := fun o => { o with dict := some s.heap.objs.size }) (o' := excObjD t0 s.heap.objs.size) F1 N1
    (fun p hp => by rw [List.mem_singleton.mp hp]; exact ne) off rfl rfl
  refine wpAny_bind (wpAny_update hx1 ?_)
  refine wpAny_pure ?_
  have N3 : News h₀ L ((s.heap.push (dictOf [] 0)).update e fun o => { o with dict := some s.heap.objs.size }) ((s.heap.objs.size, dictOf [] 0) :: (e, excObjD t0 s.heap.objs.size) :: rest) := N2
  refine gf_store (s := { s with heap := (s.heap.push (dictOf [] 0)).update e fun o => { o with dict := some s.heap.objs.size } }) F2 N3 ?_ rfl rfl (show 1 ≤ 1000 from by decide) ?_
  · intro q hq e1
    rcases List.mem_cons.mp hq with rfl | hq
    · exact ne e1.symm
    · exact absurd (Heap.lt_size (N q (.tail _ hq)).1) (by rw [e1]; exact Nat.lt_irrefl _)
  · intro h' F' N'
    exact hq _ h' _ _ F' N' (Heap.lt_size hx) (fun p hp => Heap.lt_size (N p (.tail _ hp)).1)
theorem gf_set1 {prog : Program} (F : Fr h₀ L s.heap m) (X₀ : K.In h₀) (N : News h₀ L s.heap ((e, excObj t0) :: rest)) (off : OffA rest e) (hs : findIn K (.ref 95) "__setattr__" = some (some (.builtin "object.__setattr__"))) (hc : clsIn K 95 = some cd) (hm : cd.mro = .ref 95 :: gfMro) (hd : cd.hasDict = true) (ht : findIn K (.ref 95) name = some none)
    (hq : ∀ dx h' tk tk', Fr h₀ L h' m → News h₀ L h' ((dx, dictOf [⟨PyData.keyHash w.params name, .str name tk, v⟩] 1) :: (e, excObjD t0 dx) :: rest) → e < dx → (∀ p ∈ rest, p.1 < dx) → Q () { s with heap := h', toks := tk' }) :
    wpAny (model prog w) A (setAttr (.ref e) name v) Q E s := by
  have X := X₀.keeps F.keep
  have hx := (N (e, _) (.head _)).1
  have I : InstAt s.heap e (excObj t0) 95 none := ⟨hx, rfl, rfl, trivial⟩
  refine set_plain X I hs (gf_osa (s := { s with toks := s.toks + 1 }) X I hc hm ht ?_)
  exact gf_own1 (s := { s with toks := s.toks + 1 }) F X₀ N off hc hd fun dx h' tk tk' F' N' a b => hq dx h' tk tk' F' N' a b
theorem gf_own2 {prog : Program} {Q : Fin → Shared → Prop} {tk : Tok} {es es' : List DictEntry} {n n' : Nat} (F : Fr h₀ L s.heap m) (X₀ : K.In h₀) (N : News h₀ L s.heap ((dx, dictOf es n) :: rest)) (off : OffA rest dx) (me : (e, excObjD t0 dx) ∈ rest) (hc : clsIn K 95 = some cd) (hd : cd.hasDict = true)
    (hr : es.any (·.refKey) = false) (he : (putL name (PyData.keyHash w.params name) (.str name s.toks) v es, putN name es n) = (es', n')) (hz : es'.length ≤ 1000)
    (hq : ∀ h' tk', Fr h₀ L h' m → News h₀ L h' ((dx, dictOf es' n') :: rest) → Q (.done (.ret .none)) { s with heap := h', toks := tk' }) :
    wpAny (model prog w) A (storeInOwnDict (.ref e) (.ref 95) (.str name tk) name v false) Q E s := by
  have X := X₀.keeps F.keep
  have hx := (N (e, _) (.tail _ me)).1
  unfold storeInOwnDict
  refine wpAny_bind (wpAny_pure (wpAny_bind ?_))
  unfold ownDictForStores instanceDict
  refine wpAny_bind (wpAny_loadPart hx (wpAny_bind ((looks_clsIn X hc).here ?_)))
  rw [hd]
  dsimp only
  refine wpAny_pure ?_
  exact gf_store F N off hr he hz fun h' F' N' => hq h' _ F' N'
theorem gf_set2 {prog : Program} {es es' : List DictEntry} {n n' : Nat} (F : Fr h₀ L s.heap m) (X₀ : K.In h₀) (N : News h₀ L s.heap ((dx, dictOf es n) :: rest)) (off : OffA rest dx) (me : (e, excObjD t0 dx) ∈ rest) (hs : findIn K (.ref 95) "__setattr__" = some (some (.builtin "object.__setattr__"))) (hc : clsIn K 95 = some cd) (hm : cd.mro = .ref 95 :: gfMro) (hd : cd.hasDict = true) (ht : findIn K (.ref 95) name = some none)
    (hr : es.any (·.refKey) = false) (he : (putL name (PyData.keyHash w.params name) (.str name (s.toks + 1)) v es, putN name es n) = (es', n')) (hz : es'.length ≤ 1000)
    (hq : ∀ h' tk', Fr h₀ L h' m → News h₀ L h' ((dx, dictOf es' n') :: rest) → Q () { s with heap := h', toks := tk' }) :
    wpAny (model prog w) A (setAttr (.ref e) name v) Q E s := by
  have X := X₀.keeps F.keep
  have hx := (N (e, _) (.tail _ me)).1
  have I : InstAt s.heap e (excObjD t0 dx) 95 (some (dictOf es n)) := ⟨hx, rfl, rfl, (N (dx, _) (.head _)).1⟩
  refine set_plain X I hs (gf_osa (s := { s with toks := s.toks + 1 }) X I hc hm ht ?_)
  exact gf_own2 (s := { s with toks := s.toks + 1 }) F X₀ N off me hc hd hr he hz fun h' tk' F' N' => hq h' tk' F' N'
end
section
variable {w : World} {A : Around} {E : Value → Shared → Prop} {s : Shared} {h₀ : Heap} {L e dx t0 : Addr} {m : PySem.Str → Option Value} {all rest : Led} {v : Value} {name : PySem.Str} {K : Frag} {cd : ClassData}
theorem gf_init_pick {Q : Value → Shared → Prop} (F : Fr h₀ L s.heap m) (X₀ : (Mine.heap w.params).In h₀) (N : News h₀ L s.heap all) (P : Pick (e, excObj t0) all rest) (hn : NoCls (.ref 95) rest)
    (h : ∀ t' h', Fr h₀ L h' m → News h₀ L h' ((e, excObj t') :: (t', tupObj [v] 0) :: rest) → Q .none { s with heap := h' }) :
    wpAny (model PySem.Challenge.rw_pb0257_01.row.prog w) A (call (.builtin "Exception.__init__") [.ref e, v]) Q E s :=
  gf_init_use F X₀ (P.news N) (P.off N hn) fun t' h' F' N' _ => h t' h' F' N'
theorem gf_set1_pick {prog : Program} {Q : Unit → Shared → Prop} (F : Fr h₀ L s.heap m) (X₀ : K.In h₀) (N : News h₀ L s.heap all) (P : Pick (e, excObj t0) all rest) (hn : NoCls (.ref 95) rest) (hs : findIn K (.ref 95) "__setattr__" = some (some (.builtin "object.__setattr__"))) (hc : clsIn K 95 = some cd) (hm : cd.mro = .ref 95 :: gfMro) (hd : cd.hasDict = true) (ht : findIn K (.ref 95) name = some none)
    (hq : ∀ dx h' tk tk', Fr h₀ L h' m → News h₀ L h' ((dx, dictOf [⟨PyData.keyHash w.params name, .str name tk, v⟩] 1) :: (e, excObjD t0 dx) :: rest) → e < dx → OffA ((e, excObjD t0 dx) :: rest) dx → Q () { s with heap := h', toks := tk' }) :
    wpAny (model prog w) A (setAttr (.ref e) name v) Q E s :=
  gf_set1 F X₀ (P.news N) (P.off N hn) hs hc hm hd ht fun dx h' tk tk' F' N' l1 l2 => hq dx h' tk tk' F' N' l1 (.cons (Nat.ne_of_lt l1) fun q hq => Nat.ne_of_lt (l2 q hq))
end
end
section
noncomputable def GfCls (h : Heap) : Prop := ∃ nm q N bs hdct sn sub ab col dd k0 k1 k2 k3 k5, h.get? 95 = some (excClassObj nm q 95 N bs gfMro hdct sn sub ab col dd k0 k1 k2 k3 k5 "Exception.__new__")
theorem gfCls_K {K : Frag} {h : Heap} {nm q : PySem.Str} {N : Addr} {bs : List Value} {hdct : Bool} {sn : List PySem.Str} {sub : List Value} {ab : Bool} {col : Option Bool} {dd : Option Addr} {k0 k1 k2 k3 k5 : Option Value} (X : K.In h) (e : K.lookup 95 = some (excClassObj nm q 95 N bs gfMro hdct sn sub ab col dd k0 k1 k2 k3 k5 "Exception.__new__")) : GfCls h :=
  ⟨_, _, _, _, _, _, _, _, _, _, _, _, _, _, _, X _ _ e⟩
noncomputable def RaisableGF (E : Value → Shared → Prop) (v : Value) (s₁ : Shared) : Prop := ∃ e t dx, v = .ref e ∧ GfCls s₁.heap ∧ s₁.heap.get? e = some (excObjD t dx) ∧ E (.ref e) s₁
section
variable {M : Model} {A : Around} {E : Value → Shared → Prop} {s : Shared} {env : Env}
theorem raise_gf {x : PySem.Expr} {pos : Pos} {Q : Flow → Shared → Prop} (hh : A.handled = none)
    (h : wpAny M A (eval x env) (RaisableGF E) E s) : wpAny M A (exec (.Raise (some x) none pos) env) Q E s := by
  show wpAny M A (do standAt pos; raiseStmt env (some (do let v ← eval x env; standAt pos; pure v)) none) Q E s
  refine wpAny_bind (wpAny_standAt ?_)
  unfold raiseStmt
  dsimp only
  refine wpAny_bind (wpAny_bind (wpAny_mono h (fun v s₁ h₁ => wpAny_bind (wpAny_standAt (wpAny_pure ?_))) fun _ _ x => x))
  obtain ⟨e, t, dx, rfl, ⟨nm, q, N, bs, hdct, sn, sub, ab, col, dd, k0, k1, k2, k3, k5, hC⟩, he, hE⟩ := h₁
  have hcB : (Value.ref 95 :: gfMro).contains (.type "BaseException") = true := by decide +kernel
  obtain ⟨hp, g, d, tk, os⟩ := s₁
  repeat (first | with_reducible refine wpAny_loadPart_at he ?_ | with_reducible refine wpAny_loadPart_at hC ?_ | (with_reducible refine wpAny_isSubtype_exc hC ?_; rw [hcB]) | wp_step)
  exact wpAny_raiseNew_none hh hE
end
end
section
section
variable {prog : Program} {w : World} {A : Around} {E : Value → Shared → Prop} {s : Shared} {h₀ : Heap} {L l : Addr} {m : PySem.Str → Option Value} {cold news : Led} {vs : List Value} {n : Nat}
theorem m_truthy {Q : Bool → Shared → Prop} (F : Fr h₀ L s.heap m) (hC : ColdAt h₀ cold) (hm : (l, listOf vs.toArray n) ∈ cold) (hz : vs.length ≤ 16384) (hp : (0 : Int) < (vs.length : Int)) (h : Q true { s with toks := s.toks + 1 + 1 }) :
    wpAny (model prog w) A (truthy (.ref l)) Q E s := wpAny_truthy_list (cold_list F hC hm) (by rw [List.size_toArray]; omega) (by
      have : (!vs.toArray.isEmpty) = true := by
        cases vs with
        | nil => exact absurd hp (by decide)
        | cons a r => rfl
      rw [this]; exact h)
theorem m_min {Q : Value → Shared → Prop} {a b : Int} {t u : Tok} (hh : A.handled = none) (F : Fr h₀ L s.heap m) (N : News h₀ L s.heap news) (hab : ¬ b < a)
    (h : ∀ h' tk, Fr h₀ L h' m → News h₀ L h' news → Q (.int a t) { s with heap := h', toks := tk }) : wpAny (model prog w) A (call (.builtin "min") [.int a t, .int b u]) Q E s :=
  min_two_N hh F N fun h' tk F' N' => by rw [if_neg hab, if_neg hab]; exact h h' tk F' N'
end
section
variable {w : World} {A₀ : Around} {Q E : Value → Shared → Prop} {s : Shared} {h₀ base : Heap} {L : Addr} {m mg mb : PySem.Str → Option Value} {hot news cold cold' : Led} {p : Program} {loose : List PySem.Str} {mean : ExcName → Option Value}
  {dp un : Nat} {gd : Option (List Code)} {cn : PySem.Str} {cs : Scope} {a : Addr} {ccd : Value} {cl : List (PySem.Str × Addr)} {outer : List Env}
  {R dR Lt Dn : Addr} {h1 h2 h3 : Int} {t1 t2 t3 tp : Tok} {pz k c : Nat} {ki : Int} {tk : Tok} {x : PySem.Str} {tx : Tok} {ws : List (PySem.Str × PySem.Str)}
theorem law_body_ct0 (B : Below A₀ base outer h₀) (F : Fr h₀ L s.heap m) (X : (Mine.heap w.params).In h₀) (N : News h₀ L s.heap ((dR, rdDict h1 h2 h3 t1 t2 t3 Lt Dn (pz : Int) tp) :: news)) (T : Top p loose mean mg mb h₀) (hk : cs.kind = .function)
    (dn : OffA news dR) (hC : ColdAt s.heap cold) (dc : OffA cold dR) (hR : RdC cold R dR Lt ws) (hW : contW ws pz 0) (hd : dp + 9 < recursionLimit) (hu : un + 72 < cLine)
    (ret : ∀ b n h' tk', Fr h₀ L h' m → News h₀ L h' ((b, tupObj [] n) :: (dR, rdDict h1 h2 h3 t1 t2 t3 Lt Dn (pz : Int) tp) :: news) → Q (.ref b) { s with heap := h', toks := tk' }) :
    wpAny (model PySem.Challenge.rw_pb0257_01.row.prog w) (ktrTop dp un gd cn cs L a ccd cl outer) (call (.ref 350) [.ref R]) Q E s := by
  revert X
  k_fill
  w_on
  intro X
  refine' ct_enter (hot := [(dR, rdDict h1 h2 h3 t1 t2 t3 Lt Dn pz tp)]) (news := news) (cold := cold)
    (Post := fun tl r => ∃ b n, r = .ref b ∧ tl = [(b, tupObj [] n), (dR, rdDict h1 h2 h3 t1 t2 t3 Lt Dn (pz : Int) tp)])
    [(S "reader", .ref R)] B F X N dn.one hC dc.one T hk ?ret ?ho ?hcd ?hroom ?hbind ?hloc ?c1 ?c2 ?c3 ?c4 ?_
  case ret =>
    rintro r tl h' tk' F' N' O' ⟨b, n, rfl, rfl⟩
    exact ret b n h' tk' F' N'
  case ho => k_is
  case hcd => k_is
  case hroom => k_room
  case hbind => exact BindsTo.of_eq rfl
  case hloc => exact locs rfl
  case c1 => exact rfl
  case c2 => exact rfl
  case c3 => exact rfl
  case c4 => decide
  clear ret N hC
  have hI := hR.inst
  have hw0 : wordAt ws pz Cs = false := hW
  intro g' L' h' FG' F' N' hC' B' X' T'
  try dsimp only
  k_fold
  repeat' (first | (k_unfold; (try dsimp only)) | (k_end; first | kc_close | wrow_close) | ((with_reducible show wpAny _ _ (PySem.call (Value.ref 163) _ _) _ _ _); k_dflt (first | (refine' skip_T (by k_asm) (by k_asm) (by k_asm) (by k_asm) (by k_asm) (by first | exact rfl | assumption) (by first | exact OffA.nil | k_all) (cold_now (by k_asm) (by k_asm)) (by assumption) (by assumption) (by assumption) (by ktr_room) (by ktr_units) ?_; (intro _ _ _ _ _); (try dsimp only); (try k_fold)) | (refine' skip_F (by k_asm) (by k_asm) (by k_asm) (by k_asm) (by k_asm) (by first | exact rfl | assumption) (by first | exact OffA.nil | k_all) (cold_now (by k_asm) (by k_asm)) (by assumption) (by assumption) (by assumption) (by ktr_room) (by ktr_units) ?_; (intro _ _ _ _); (try dsimp only); (try k_fold)))) | ((with_reducible show wpAny _ _ (exec (Stmt.While _ _ _ _) _) _ _ _); k_dflt (refine whl_start 100 ?_)) | ((with_reducible show wpAny _ _ (binaryOp Operator.Mult (Value.ref _) (Value.int _ _)) _ _ _); k_dflt (first | (refine' tup_mul1 (by decide) (by k_asm) (by k_mem) ?_; k_whole) | (first | refine' tup_mul2 (by decide) (by k_asm) (by k_asm) (by k_mem) ?_ | refine' tup_mul3 (by decide) (by k_asm) (by k_asm) (by k_mem) ?_ | refine' tup_mul0 (by decide) (by k_asm) (by k_asm) (by k_mem) ?_); k_whole; intro _ _ _ _ l1; (try k_lt l1); (try k_sweep))) | walk1 | (dsimp only; first | ((with_reducible show wpAny _ _ (PySem.call (Value.ref 163) _ _) _ _ _); k_dflt (first | (refine' skip_T (by k_asm) (by k_asm) (by k_asm) (by k_asm) (by k_asm) (by first | exact rfl | assumption) (by first | exact OffA.nil | k_all) (cold_now (by k_asm) (by k_asm)) (by assumption) (by assumption) (by assumption) (by ktr_room) (by ktr_units) ?_; (intro _ _ _ _ _); (try dsimp only); (try k_fold)) | (refine' skip_F (by k_asm) (by k_asm) (by k_asm) (by k_asm) (by k_asm) (by first | exact rfl | assumption) (by first | exact OffA.nil | k_all) (cold_now (by k_asm) (by k_asm)) (by assumption) (by assumption) (by assumption) (by ktr_room) (by ktr_units) ?_; (intro _ _ _ _); (try dsimp only); (try k_fold)))) | ((with_reducible show wpAny _ _ (exec (Stmt.While _ _ _ _) _) _ _ _); k_dflt (refine whl_start 100 ?_)) | ((with_reducible show wpAny _ _ (binaryOp Operator.Mult (Value.ref _) (Value.int _ _)) _ _ _); k_dflt (first | (refine' tup_mul1 (by decide) (by k_asm) (by k_mem) ?_; k_whole) | (first | refine' tup_mul2 (by decide) (by k_asm) (by k_asm) (by k_mem) ?_ | refine' tup_mul3 (by decide) (by k_asm) (by k_asm) (by k_mem) ?_ | refine' tup_mul0 (by decide) (by k_asm) (by k_asm) (by k_mem) ?_); k_whole; intro _ _ _ _ l1; (try k_lt l1); (try k_sweep))) | walk1) | (leave1; walk_say "STEP leave1"; try dsimp only) | fail "no step")
  exact EndR.sub [(_, tupObj [] _), (dR, rdDict h1 h2 h3 t1 t2 t3 Lt Dn (pz : Int) tp)] (by assumption) (by assumption) (sub_cons (by k_mem) (sub_cons (by k_mem) sub_nil)) ⟨_, _, rfl, rfl⟩
theorem body_here_fault (B : Below A₀ base outer h₀) (F : Fr h₀ L s.heap m) (X : (Mine.heap w.params).In h₀) (N : News h₀ L s.heap ((dR, rdDict h1 h2 h3 t1 t2 t3 Lt Dn (pz : Int) tp) :: news)) (T : Top p loose mean mg mb h₀) (hk : cs.kind = .function)
    (dn : OffA news dR) (hC : ColdAt s.heap cold) (dc : OffA cold dR) (hR : RdC cold R dR Lt ws) (hW : contW ws pz 0) (hz : pz < ws.length) (hd : dp + 12 < recursionLimit) (hu : un + 96 < cLine)
    (retE : ∀ e h' tk', Turned (frs (envX cn cs L a ccd cl :: outer)) [dR] s.heap h' → Thrown s.heap h' e pz → E (.ref e) { s with heap := h', toks := tk' }) :
    wpAny (model PySem.Challenge.rw_pb0257_01.row.prog w) (ktrTop dp un gd cn cs L a ccd cl outer) (call (.ref 49) [.ref R, .ref 350]) Q E s := by
  revert X
  k_fill
  w_on
  intro X
  refine' ct_enterE (hot := [(dR, rdDict h1 h2 h3 t1 t2 t3 Lt Dn pz tp)]) (news := news) (cold := cold) (ln := pz) (Z := True)
    (Post := fun tl r => False)
    [(S "reader", .ref R), (S "read_body", .ref 350)] B F X N dn.one hC dc.one T hk ?ret ?retE ?ho ?hcd ?hroom ?hbind ?hloc ?c1 ?c2 ?c3 ?c4 ?_
  case ret => intro r tl h' tk' F' N' O' f; exact f.elim
  case retE => intro e h' tk' tu th _; exact retE e h' tk' tu th
  case ho => k_is
  case hcd => k_is
  case hroom => k_room
  case hbind => exact BindsTo.of_eq rfl
  case hloc => exact locs rfl
  case c1 => exact rfl
  case c2 => exact rfl
  case c3 => exact rfl
  case c4 => decide
  clear retE N hC
  have hI := hR.inst
  have hR' := hR
  obtain ⟨_, vs, n, hL, hT⟩ := hR'
  have hlt : (pz : Int) < (vs.length : Int) := by have := hT.len; omega
  intro g' L' h' FG' F' N' hC' B' X' T'
  try dsimp only
  k_fold
  repeat' (first | (k_unfold; (try dsimp only)) | (k_end; first | kc_close | wrow_close) | ((with_reducible show wpAny _ _ (PySem.call (Value.ref 350) _ _) _ _ _); k_dflt (refine' law_body_ct0 (by k_asm) (by k_asm) (by k_asm) (by k_asm) (by k_asm) (by first | exact rfl | assumption) (by first | exact OffA.nil | k_all) (cold_now (by k_asm) (by k_asm)) (by assumption) (by assumption) (by assumption) (by ktr_room) (by ktr_units) ?_; (intro _ _ _ _ _ _); (try dsimp only); (try k_fold))) | ((with_reducible show wpAny _ _ (compareOp CmpOp.Eq (Value.ref _) (Value.ref _)) _ _ _); k_dflt (first | refine' body_eq (by k_asm) (by k_mem) (by k_mem) (by k_mem) (by assumption) (by ktr_units) ?_ | refine' body_eq0 (by k_asm) (by k_mem) (by k_mem) (by ktr_units) ?_)) | ((with_reducible show wpAny _ _ (getMethod (Value.type "Exception") _ _) _ _ _); k_here; refine' method_type (by k_asm) (by k_asm) meta_Exception (by decide +kernel) (by k_dflt k_is) (by k_handed) ?_) | ((with_reducible show wpAny _ _ (call (Value.builtin "Exception.__init__") _ _) _ _ _); k_dflt (refine' gf_init_pick (by k_asm) (by k_asm) (by k_asm) (by (repeat (first | with_reducible exact Pick.here | apply Pick.there)); done) (by (repeat' (first | exact NoCls.nil | refine NoCls.cons type_ne_ref ?_)); done) ?_); intro _ _ _ _) | ((with_reducible show wpAny _ _ (setAttr (Value.ref _) _ _) _ _ _); k_dflt (first | (refine' gf_set1_pick (by k_asm) (by k_asm) (by k_asm) (by (repeat (first | with_reducible exact Pick.here | apply Pick.there)); done) (by (repeat' (first | exact NoCls.nil | refine NoCls.cons type_ne_ref ?_)); done) (by k_is) (by k_is) (by exact rfl) (by exact rfl) (by k_is) ?_; intro _ _ _ _ _ _ _ _) | (refine' gf_set2 (by k_asm) (by k_asm) (by k_asm) (by assumption) (by k_mem) (by k_is) (by k_is) (by exact rfl) (by exact rfl) (by k_is) (by exact rfl) (by exact rfl) (Nat.le_of_ble_eq_true rfl) ?_; intro _ _ _ _))) | ((with_reducible show wpAny _ _ (exec (Stmt.Raise _ _ _) _) _ _ _); k_dflt (refine' raise_gf (by exact rfl) ?_); (try k_fold)) | ((with_reducible show wpAny _ _ (PySem.call (Value.ref 95) _ _) _ _ _); k_dflt (refine' gf_use (by k_asm) (by k_asm) (by k_asm) (Nat.le_of_ble_eq_true rfl) ?_); intro t' e' h' F' N' l1 l2 l3; (try k_lt l1)) | ((with_reducible show wpAny _ _ (truthy (Value.ref _)) _ _ _); (rename ToksAre _ _ _ => hTk); k_dflt (refine' m_truthy (by k_asm) (by k_asm) (by with_reducible assumption) (Nat.le_trans (ToksAre.small hTk) (by decide)) (by omega) ?_)) | ((with_reducible show wpAny _ _ (call (Value.builtin _) [Value.int _ _, Value.int _ _]) _ _ _); k_dflt (refine' m_min (by exact rfl) (by k_asm) (by k_asm) (by omega) ?_); intro _ _ _ _) | ((with_reducible show wpAny _ _ (call (Value.builtin _) [Value.ref _]) _ _ _); (with_reducible rename ToksAre _ _ _ => hTk); k_dflt (with_reducible refine' m_len (by k_asm) (by k_asm) (by with_reducible assumption) (Nat.le_trans (ToksAre.small hTk) (by decide)) ?_)) | ((with_reducible show wpAny _ _ (subscriptTail _ _ (Value.ref _) (Value.int _ _)) _ _ _); (with_reducible rename ToksAre _ _ _ => hTk); (with_unfolding_all refine' m_item (by k_asm) (by k_asm) (by with_reducible assumption) (by omega) (Nat.le_trans (ToksAre.small hTk) (by decide)) (by first | assumption | omega) ?_ (by with_unfolding_all rfl)); intro v' hv'; (obtain ⟨kd', wd', hw', ⟨a', d', q', h1', h2', h3', h4', t1', t2', t3', t4', u1', u2', u3', u4', n', hv0', hm1', hm2', hm3'⟩⟩ := ToksAre.get hTk _ _ hv'); subst hv0') | walk1 | (dsimp only; first | ((with_reducible show wpAny _ _ (PySem.call (Value.ref 350) _ _) _ _ _); k_dflt (refine' law_body_ct0 (by k_asm) (by k_asm) (by k_asm) (by k_asm) (by k_asm) (by first | exact rfl | assumption) (by first | exact OffA.nil | k_all) (cold_now (by k_asm) (by k_asm)) (by assumption) (by assumption) (by assumption) (by ktr_room) (by ktr_units) ?_; (intro _ _ _ _ _ _); (try dsimp only); (try k_fold))) | ((with_reducible show wpAny _ _ (compareOp CmpOp.Eq (Value.ref _) (Value.ref _)) _ _ _); k_dflt (first | refine' body_eq (by k_asm) (by k_mem) (by k_mem) (by k_mem) (by assumption) (by ktr_units) ?_ | refine' body_eq0 (by k_asm) (by k_mem) (by k_mem) (by ktr_units) ?_)) | ((with_reducible show wpAny _ _ (getMethod (Value.type "Exception") _ _) _ _ _); k_here; refine' method_type (by k_asm) (by k_asm) meta_Exception (by decide +kernel) (by k_dflt k_is) (by k_handed) ?_) | ((with_reducible show wpAny _ _ (call (Value.builtin "Exception.__init__") _ _) _ _ _); k_dflt (refine' gf_init_pick (by k_asm) (by k_asm) (by k_asm) (by (repeat (first | with_reducible exact Pick.here | apply Pick.there)); done) (by (repeat' (first | exact NoCls.nil | refine NoCls.cons type_ne_ref ?_)); done) ?_); intro _ _ _ _) | ((with_reducible show wpAny _ _ (setAttr (Value.ref _) _ _) _ _ _); k_dflt (first | (refine' gf_set1_pick (by k_asm) (by k_asm) (by k_asm) (by (repeat (first | with_reducible exact Pick.here | apply Pick.there)); done) (by (repeat' (first | exact NoCls.nil | refine NoCls.cons type_ne_ref ?_)); done) (by k_is) (by k_is) (by exact rfl) (by exact rfl) (by k_is) ?_; intro _ _ _ _ _ _ _ _) | (refine' gf_set2 (by k_asm) (by k_asm) (by k_asm) (by assumption) (by k_mem) (by k_is) (by k_is) (by exact rfl) (by exact rfl) (by k_is) (by exact rfl) (by exact rfl) (Nat.le_of_ble_eq_true rfl) ?_; intro _ _ _ _))) | ((with_reducible show wpAny _ _ (exec (Stmt.Raise _ _ _) _) _ _ _); k_dflt (refine' raise_gf (by exact rfl) ?_); (try k_fold)) | ((with_reducible show wpAny _ _ (PySem.call (Value.ref 95) _ _) _ _ _); k_dflt (refine' gf_use (by k_asm) (by k_asm) (by k_asm) (Nat.le_of_ble_eq_true rfl) ?_); intro t' e' h' F' N' l1 l2 l3; (try k_lt l1)) | ((with_reducible show wpAny _ _ (truthy (Value.ref _)) _ _ _); (rename ToksAre _ _ _ => hTk); k_dflt (refine' m_truthy (by k_asm) (by k_asm) (by with_reducible assumption) (Nat.le_trans (ToksAre.small hTk) (by decide)) (by omega) ?_)) | ((with_reducible show wpAny _ _ (call (Value.builtin _) [Value.int _ _, Value.int _ _]) _ _ _); k_dflt (refine' m_min (by exact rfl) (by k_asm) (by k_asm) (by omega) ?_); intro _ _ _ _) | ((with_reducible show wpAny _ _ (call (Value.builtin _) [Value.ref _]) _ _ _); (with_reducible rename ToksAre _ _ _ => hTk); k_dflt (with_reducible refine' m_len (by k_asm) (by k_asm) (by with_reducible assumption) (Nat.le_trans (ToksAre.small hTk) (by decide)) ?_)) | ((with_reducible show wpAny _ _ (subscriptTail _ _ (Value.ref _) (Value.int _ _)) _ _ _); (with_reducible rename ToksAre _ _ _ => hTk); (with_unfolding_all refine' m_item (by k_asm) (by k_asm) (by with_reducible assumption) (by omega) (Nat.le_trans (ToksAre.small hTk) (by decide)) (by first | assumption | omega) ?_ (by with_unfolding_all rfl)); intro v' hv'; (obtain ⟨kd', wd', hw', ⟨a', d', q', h1', h2', h3', h4', t1', t2', t3', t4', u1', u2', u3', u4', n', hv0', hm1', hm2', hm3'⟩⟩ := ToksAre.get hTk _ _ hv'); subst hv0') | walk1) | (leave1; walk_say "STEP leave1"; try dsimp only) | fail "no step")
  rename Fr g' L' _ _ => kF
  rename News g' L' _ _ => kN
  have X9 := X'.keeps kF.keep
  refine ⟨_, _, _, rfl, gfCls_K X9 (by k_is), kN.get (by k_mem), ?_⟩
  k_unfold
  refine' leave_made (ln := pz) B' kF kN ?me ?md ?hq ?hqc ?hqd ?sz ?hed ?hA ?hf ?hke ?_
  case me => k_mem
  case md => exact List.mem_cons_self
  case hq => exact hC' _ (by assumption)
  case hqc => exact rfl
  case hqd => exact rfl
  case sz => exact size_le (by assumption) (by assumption)
  case hed => assumption
  case hA => exact rfl
  case hf => exact rfl
  case hke => exact rfl
  intro h2 tu2 th2
  exact ⟨_, _, _, rfl, rfl, tu2, th2, trivial⟩
end
end
section
section
variable {prog : Program} {w : World} {A : Around} {E : Value → Shared → Prop} {s : Shared} {Q : Value → Shared → Prop} {h₀ : Heap} {L B : Addr} {m : PySem.Str → Option Value} {all rest : Led} {items : List Value} {v : Value} {n : Nat}
theorem m_append (F : Fr h₀ L s.heap m) (N : News h₀ L s.heap all) (P : Pick (B, listOf items.toArray n) all rest) (hn : NoCls (.type "list") rest) (hz : items.length ≤ 16384)
    (h : ∀ h', Fr h₀ L h' m → News h₀ L h' ((B, listOf (items ++ [v]).toArray (n + 1)) :: rest) → Q .none { s with heap := h' }) : wpAny (model prog w) A (call (.builtin "list.append") [.ref B, v]) Q E s :=
  append_in (own := []) F (P.news N) (fun _ hp => nomatch hp) (P.off N hn) h (by rw [sizeLine_eq]; omega)
end
section
variable {s : Shared} {h₀ : Heap} {L I : Addr} {it : Obj} {rest : (PySem.Str → Option Value) → Led → Prop} {h' : Heap} {tk : Nat} {m' : PySem.Str → Option Value} {all r : Led}
theorem unrEnd_pick (F : Fr h₀ L h' m') (N : News h₀ L h' all) (P : Pick (I, it) all r) (hn : NoCls it.cls r) (k : rest m' r) : UnrEnd h₀ L s I it rest { s with heap := h', toks := tk } :=
  UnrEnd.intro F N r (fun q hq => (List.mem_cons.mp hq).elim (fun e => e ▸ P.mem) (P.sub q)) (P.off N hn) k
end
structure KeysAre (vs : List Value) (ks : List Key) : Prop where
  len : vs.length = ks.length
  small : vs.length ≤ 100
  get : ∀ (i : Nat) (v : Value), vs[i]? = some v → ∃ (k : Key) (t : Tok), ks[i]? = some k ∧ v = Value.str k.str t
noncomputable def BrOne (l : Led) (v : Value) (kb : Key × Nat) : Prop := ∃ a b q n n1 n2 t t', v = .ref a ∧ (a, tupObj [.str kb.1.str t, .ref b] n) ∈ l ∧ (b, tupObj (List.replicate kb.2 (.ref q)) n1) ∈ l ∧ (q, tupObj [.str (S "continue") t'] n2) ∈ l
theorem BrOne.mono {l l' : Led} {v : Value} {kb : Key × Nat} (h : BrOne l v kb) (hs : ∀ q ∈ l, q ∈ l') : BrOne l' v kb := by
  obtain ⟨a, b, q, n, n1, n2, t, t', e, x, y, z⟩ := h
  exact ⟨a, b, q, n, n1, n2, t, t', e, hs _ x, hs _ y, hs _ z⟩
inductive BrAll (l : Led) : List Value → List (Key × Nat) → Prop where
  | nil : BrAll l [] []
  | cons {v : Value} {vs : List Value} {kb : Key × Nat} {bs : List (Key × Nat)} : BrOne l v kb → BrAll l vs bs → BrAll l (v :: vs) (kb :: bs)
theorem BrAll.mono {l l' : Led} {vs : List Value} {bs : List (Key × Nat)} (h : BrAll l vs bs) (hs : ∀ q ∈ l, q ∈ l') : BrAll l' vs bs := by
  induction h with
  | nil => exact .nil
  | cons a _ ih => exact .cons (a.mono hs) ih
theorem BrAll.snoc {l : Led} {vs : List Value} {bs : List (Key × Nat)} {v : Value} {kb : Key × Nat} (h : BrAll l vs bs) (x : BrOne l v kb) : BrAll l (vs ++ [v]) (bs ++ [kb]) := by
  induction h with
  | nil => exact .cons x .nil
  | cons a _ ih => exact .cons a ih
theorem BrAll.len {l : Led} {vs : List Value} {bs : List (Key × Nat)} (h : BrAll l vs bs) : vs.length = bs.length := by
  induction h with
  | nil => rfl
  | cons _ _ ih => simp [ih]
section
variable {w : World} {A₀ : Around} {Q E : Value → Shared → Prop} {s : Shared} {h₀ base : Heap} {L : Addr} {m mg mb : PySem.Str → Option Value} {hot news cold cold' all rest : Led} {p : Program} {loose : List PySem.Str} {mean : ExcName → Option Value}
  {dp un : Nat} {gd : Option (List Code)} {cn : PySem.Str} {cs : Scope} {a : Addr} {ccd : Value} {cl : List (PySem.Str × Addr)} {outer : List Env}
  {R dR Lt Dn : Addr} {h1 h2 h3 : Int} {t1 t2 t3 tp : Tok} {pz k c : Nat} {ki : Int} {tk : Tok} {x : PySem.Str} {tx : Tok} {ws : List (PySem.Str × PySem.Str)}
theorem opening_use (key : Key) (B : Below A₀ base outer h₀) (F : Fr h₀ L s.heap m) (X : (Mine.heap w.params).In h₀) (N : News h₀ L s.heap all) (T : Top p loose mean mg mb h₀) (hk : cs.kind = .function)
    (hC : ColdAt h₀ cold) (hR : RdC cold R dR Lt ws) (hD : (dR, rdDict h1 h2 h3 t1 t2 t3 Lt Dn (pz : Int) tp) ∈ all) (hl : ∀ i x, wordAt ws i x = true → i + 1 < ws.length) (hz : pz < ws.length) (hd : dp + 6 < recursionLimit) (hu : un + 48 < cLine)
    (r0 : opn ws pz key = 0 → ∀ t h' tk', Fr h₀ L h' m → News h₀ L h' all → Q (.int 0 t) { s with heap := h', toks := tk' })
    (r1 : opn ws pz key = 1 → pz + 1 < ws.length → ∀ t h' tk', Fr h₀ L h' m → News h₀ L h' all → Q (.int 1 t) { s with heap := h', toks := tk' })
    (r2 : opn ws pz key = 2 → pz + 2 < ws.length → ∀ t h' tk', Fr h₀ L h' m → News h₀ L h' all → Q (.int 2 t) { s with heap := h', toks := tk' })
    (r3 : opn ws pz key = 3 → pz + 3 < ws.length → ∀ t h' tk', Fr h₀ L h' m → News h₀ L h' all → Q (.int 3 t) { s with heap := h', toks := tk' })
    (r4 : opn ws pz key = 4 → pz + 4 < ws.length → ∀ t h' tk', Fr h₀ L h' m → News h₀ L h' all → Q (.int 4 t) { s with heap := h', toks := tk' }) :
    wpAny (model PySem.Challenge.rw_pb0257_01.row.prog w) (ktrTop dp un gd cn cs L a ccd cl outer) (call (.ref 42) [.ref R, .str key.str tx]) Q E s := by
  refine opening_length_ct key (cold := (dR, rdDict h1 h2 h3 t1 t2 t3 Lt Dn (pz : Int) tp) :: cold) B F X N T hk (fun q hq => (List.mem_cons.mp hq).elim (fun e => e ▸ (N _ hD).1) fun hq => F.keep _ _ (hC q hq)) (hR.mono fun q hq => List.mem_cons_of_mem _ hq) List.mem_cons_self hd hu ?_
  intro t h' tk' F' N'
  have hle := opn_lt hl key hz
  change Q (.int ((opn ws pz key : Nat) : Int) t) _
  obtain e | e | e | e | e : opn ws pz key = 0 ∨ opn ws pz key = 1 ∨ opn ws pz key = 2 ∨ opn ws pz key = 3 ∨ opn ws pz key = 4 := by omega
  · rw [e]; exact r0 e t h' tk' F' N'
  · rw [e] at hle ⊢; exact r1 e hle.1 t h' tk' F' N'
  · rw [e] at hle ⊢; exact r2 e hle.1 t h' tk' F' N'
  · rw [e] at hle ⊢; exact r3 e hle.1 t h' tk' F' N'
  · rw [e] at hle ⊢; exact r4 e hle.1 t h' tk' F' N'
theorem take_use (B : Below A₀ base outer h₀) (F : Fr h₀ L s.heap m) (X : (Mine.heap w.params).In h₀) (N : News h₀ L s.heap all) (T : Top p loose mean mg mb h₀) (hk : cs.kind = .function)
    (hC : ColdAt h₀ cold) (dc : OffA cold dR) (hR : RdC cold R dR Lt ws) (P : Pick (dR, rdDict h1 h2 h3 t1 t2 t3 Lt Dn (pz : Int) tp) all rest) (hn : NoCls (.type "dict") rest) (hW : pz < ws.length) (hd : dp + 6 < recursionLimit) (hu : un + 48 < cLine)
    (ret : ∀ r tp' h' tk', Fr h₀ L h' m → News h₀ L h' ((dR, rdDict h1 h2 h3 t1 t2 t3 Lt Dn (((pz + 1 : Nat)) : Int) tp') :: rest) → Q r { s with heap := h', toks := tk' }) :
    wpAny (model PySem.Challenge.rw_pb0257_01.row.prog w) (ktrTop dp un gd cn cs L a ccd cl outer) (call (.ref 141) [.ref R]) Q E s :=
  take_ct B F X (P.news N) T hk (P.off N hn) (hC.keeps F.keep) dc hR hW hd hu ret
theorem body_use (B : Below A₀ base outer h₀) (F : Fr h₀ L s.heap m) (X : (Mine.heap w.params).In h₀) (N : News h₀ L s.heap all) (T : Top p loose mean mg mb h₀) (hk : cs.kind = .function)
    (hC : ColdAt h₀ cold) (dc : OffA cold dR) (hR : RdC cold R dR Lt ws) (P : Pick (dR, rdDict h1 h2 h3 t1 t2 t3 Lt Dn (pz : Int) tp) all rest) (hn : NoCls (.type "dict") rest) (h3c : ∀ pz, cont ws pz ≤ 3) (hz : pz < ws.length) (hd : dp + 12 < recursionLimit) (hu : un + 96 < cLine)
    (ret : 1 ≤ cont ws pz → ∀ b q n n' t tp' h' tk', Fr h₀ L h' m → News h₀ L h' ((b, tupObj (List.replicate (cont ws pz) (.ref q)) n) :: (q, tupObj [.str (S "continue") t] n') :: (dR, rdDict h1 h2 h3 t1 t2 t3 Lt Dn ((pz + cont ws pz : Nat) : Int) tp') :: rest) →
      Q (.ref b) { s with heap := h', toks := tk' })
    (retE : cont ws pz = 0 → ∀ e h' tk', Turned (frs (envX cn cs L a ccd cl :: outer)) [dR] s.heap h' → Thrown s.heap h' e pz → E (.ref e) { s with heap := h', toks := tk' }) :
    wpAny (model PySem.Challenge.rw_pb0257_01.row.prog w) (ktrTop dp un gd cn cs L a ccd cl outer) (call (.ref 49) [.ref R, .ref 350]) Q E s := by
  rcases Nat.eq_zero_or_pos (cont ws pz) with e | e
  · exact body_here_fault B F X (P.news N) T hk (P.off N hn) (hC.keeps F.keep) dc hR (contW_cont 0 pz e) hz hd hu (retE e)
  · refine body_here_ct (h3c pz) e B F X (P.news N) T hk (P.off N hn) (hC.keeps F.keep) dc hR (contW_cont _ pz rfl) hd hu ?_
    intro b q n n' t tp' h' tk' F' N' _ _ _ _
    rw [bump_eq] at N'
    exact ret e b q n n' t tp' h' tk' F' N'
end
end
section
/-- between the turns of branches_here's loop -/
noncomputable def BrJ (ws : List (PySem.Str × PySem.Str)) (ks : List Key) (R dR Lt Dn Kt Bl : Addr) (h1 h2 h3 : Int) (t1 t2 t3 : Tok) (i : Nat) (mm : PySem.Str → Option Value) (nx : Led) : Prop :=
  ∃ (u : PySem.Str → Option Value) (pz : Nat) (tp' : Tok) (items : List Value) (nb : Nat) (extras : Led) (bs : List (Key × Nat)),
      mm = (fun z => if ([S "key", S "length", S "turn"] : List PySem.Str).contains z then u z else (if z = S "branches" then some (Value.ref Bl) else List.lookup z [(S "reader", Value.ref R), (S "read_body", Value.ref 350), (S "keys", Value.ref Kt)].reverse)) ∧
      (dR, rdDict h1 h2 h3 t1 t2 t3 Lt Dn (pz : Int) tp') ∈ nx ∧ (Bl, listOf items.toArray nb) ∈ nx ∧ (∀ q ∈ extras, q ∈ nx) ∧ AllTup extras ∧ pz < ws.length ∧ (ks.take i).foldl (stepK ws) (.ok 0 []) = .ok pz bs ∧ BrAll extras items bs ∧ bs.length ≤ i
theorem fold_take {ws : List (PySem.Str × PySem.Str)} {ks : List Key} {i : Nat} {key : Key} {o : Out} (hkey : ks[i]? = some key) : (ks.take (i + 1)).foldl (stepK ws) o = stepK ws ((ks.take i).foldl (stepK ws) o) key := by
  rw [List.take_add_one, hkey, List.foldl_append]
  rfl
theorem fold_whole_odd {ws : List (PySem.Str × PySem.Str)} {ks : List Key} {i pz n : Nat} {key : Key} {bs : List (Key × Nat)} (hkey : ks[i]? = some key) (hf : (ks.take i).foldl (stepK ws) (.ok 0 []) = .ok pz bs) (hn : opn ws pz key = n) (hn1 : 1 ≤ n) (hc : cont ws (pz + n) = 0) :
    ks.foldl (stepK ws) (.ok 0 []) = .odd (pz + n) := by
  have h1 := fold_take (ws := ws) (o := .ok 0 []) hkey
  rw [hf] at h1
  have h2 : stepK ws (.ok pz bs) key = .odd (pz + n) := by
    show (if opn ws pz key = 0 then _ else _) = _
    rw [hn, if_neg (by omega), if_pos hc]
  rw [h2] at h1
  rw [← List.take_append_drop (i + 1) ks, List.foldl_append, h1, fold_odd]
theorem st_ne {z : PySem.Str} (hz : ([S "key", S "length", S "turn"] : List PySem.Str).contains z = false) : z ≠ S "key" ∧ z ≠ S "length" ∧ z ≠ S "turn" := by
  refine ⟨fun e => ?_, fun e => ?_, fun e => ?_⟩ <;> (subst e; revert hz; decide)
theorem AllTup.cons {q : Addr × Obj} {l : Led} (h : q.2.cls = .type "tuple") (r : AllTup l) : AllTup (q :: l) := fun x hx => (List.mem_cons.mp hx).elim (fun e => e ▸ h) (r x)
section
variable {ws : List (PySem.Str × PySem.Str)} {ks : List Key} {R dR Lt Dn Kt Bl T b q : Addr} {h1 h2 h3 : Int} {t1 t2 t3 tp' t tkey : Tok} {i pz n nb k1 k2 k3 : Nat} {key : Key} {mm : PySem.Str → Option Value} {nx extras : Led} {items : List Value} {bs : List (Key × Nat)}
theorem brJ_zero (hkey : ks[i]? = some key) (hn : opn ws pz key = 0) (hpz : pz < ws.length) (hf : (ks.take i).foldl (stepK ws) (.ok 0 []) = .ok pz bs) (hb : BrAll extras items bs) (hlen : bs.length ≤ i) (aX : AllTup extras)
    (hm : ∀ z, ([S "key", S "length", S "turn"] : List PySem.Str).contains z = false → mm z = (if z = S "branches" then some (Value.ref Bl) else List.lookup z [(S "reader", Value.ref R), (S "read_body", Value.ref 350), (S "keys", Value.ref Kt)].reverse))
    (mR : (dR, rdDict h1 h2 h3 t1 t2 t3 Lt Dn (pz : Int) tp') ∈ nx) (mB : (Bl, listOf items.toArray nb) ∈ nx) (mX : ∀ x ∈ extras, x ∈ nx) : BrJ ws ks R dR Lt Dn Kt Bl h1 h2 h3 t1 t2 t3 (i + 1) mm nx := by
  refine ⟨mm, pz, tp', items, nb, extras, bs, ?_, mR, mB, mX, aX, hpz, ?_, hb, by omega⟩
  · funext z
    cases e : ([S "key", S "length", S "turn"] : List PySem.Str).contains z with
    | true => rfl
    | false => exact hm z e
  · rw [fold_take hkey, hf]
    show (if opn ws pz key = 0 then _ else _) = _
    rw [if_pos hn]
theorem brJ_step (n : Nat) (hkey : ks[i]? = some key) (hn : opn ws pz key = n) (hn1 : 1 ≤ n) (hc : 1 ≤ cont ws (pz + n)) (hl : ∀ i x, wordAt ws i x = true → i + 1 < ws.length) (hpz : pz + n < ws.length) (hf : (ks.take i).foldl (stepK ws) (.ok 0 []) = .ok pz bs) (hb : BrAll extras items bs) (hlen : bs.length ≤ i) (aX : AllTup extras)
    (hm : ∀ z, ([S "key", S "length", S "turn"] : List PySem.Str).contains z = false → mm z = (if z = S "branches" then some (Value.ref Bl) else List.lookup z [(S "reader", Value.ref R), (S "read_body", Value.ref 350), (S "keys", Value.ref Kt)].reverse))
    (mR : (dR, rdDict h1 h2 h3 t1 t2 t3 Lt Dn ((pz + n + cont ws (pz + n) : Nat) : Int) tp') ∈ nx) (mB : (Bl, listOf (items ++ [Value.ref T]).toArray nb) ∈ nx) (mT : (T, tupObj [.str key.str tkey, .ref b] k1) ∈ nx) (mb : (b, tupObj (List.replicate (cont ws (pz + n)) (.ref q)) k2) ∈ nx) (mq : (q, tupObj [.str (S "continue") t] k3) ∈ nx)
    (mX : ∀ x ∈ extras, x ∈ nx) : BrJ ws ks R dR Lt Dn Kt Bl h1 h2 h3 t1 t2 t3 (i + 1) mm nx := by
  refine ⟨mm, pz + n + cont ws (pz + n), tp', items ++ [Value.ref T], nb, (T, tupObj [.str key.str tkey, .ref b] k1) :: (b, tupObj (List.replicate (cont ws (pz + n)) (.ref q)) k2) :: (q, tupObj [.str (S "continue") t] k3) :: extras, bs ++ [(key, cont ws (pz + n))], ?_, mR, mB, sub_cons mT (sub_cons mb (sub_cons mq mX)), .cons rfl (.cons rfl (.cons rfl aX)), ?_, ?_, ?_, ?_⟩
  · funext z
    cases e : ([S "key", S "length", S "turn"] : List PySem.Str).contains z with
    | true => rfl
    | false => exact hm z e
  · exact cont_lt hl hpz
  · rw [fold_take hkey, hf]
    show (if opn ws pz key = 0 then _ else _) = _
    rw [hn, if_neg (by omega), if_neg (by omega)]
  · exact (hb.mono fun x hx => .tail _ (.tail _ (.tail _ hx))).snoc ⟨T, b, q, k1, k2, k3, tkey, t, rfl, .head _, .tail _ (.head _), .tail _ (.tail _ (.head _))⟩
  · rw [List.length_append, List.length_singleton]; omega
end
section
variable {w : World} {A₀ : Around} {Q E : Value → Shared → Prop} {s : Shared} {h₀ base : Heap} {L : Addr} {m mg mb : PySem.Str → Option Value} {hot news cold cold' all rest : Led} {p : Program} {loose : List PySem.Str} {mean : ExcName → Option Value}
  {dp un : Nat} {gd : Option (List Code)} {cn : PySem.Str} {cs : Scope} {a : Addr} {ccd : Value} {cl : List (PySem.Str × Addr)} {outer : List Env}
  {R dR Lt Dn Kt : Addr} {h1 h2 h3 : Int} {t1 t2 t3 tp : Tok} {pz k c nk : Nat} {ki : Int} {tk : Tok} {x : PySem.Str} {tx : Tok} {ws : List (PySem.Str × PySem.Str)} {kvs : List Value} {ks : List Key}
theorem branches_ct (B : Below A₀ base outer h₀) (F : Fr h₀ L s.heap m) (X : (Mine.heap w.params).In h₀) (N : News h₀ L s.heap ((dR, rdDict h1 h2 h3 t1 t2 t3 Lt Dn ((0 : Nat) : Int) tp) :: news)) (T : Top p loose mean mg mb h₀) (hk : cs.kind = .function)
    (dn : OffA news dR) (hC : ColdAt s.heap cold) (dc : OffA cold dR) (hR : RdC cold R dR Lt ws) (hK : (Kt, tupObj kvs nk) ∈ cold) (hKs : KeysAre kvs ks) (hl : ∀ i x, wordAt ws i x = true → i + 1 < ws.length) (hw0 : 0 < ws.length) (h3c : ∀ pz, cont ws pz ≤ 3) (hd : dp + 15 < recursionLimit) (hu : un + 120 < cLine)
    (ret : ∀ b pe bs items n extras tp' h' tk', ks.foldl (stepK ws) (.ok 0 []) = .ok pe bs → Fr h₀ L h' m → News h₀ L h' ((b, tupObj items n) :: (dR, rdDict h1 h2 h3 t1 t2 t3 Lt Dn (pe : Int) tp') :: (extras ++ news)) → AllTup extras → BrAll extras items bs → Q (.ref b) { s with heap := h', toks := tk' })
    (retE : ∀ e pe h' tk', ks.foldl (stepK ws) (.ok 0 []) = .odd pe → Turned (frs (envX cn cs L a ccd cl :: outer)) [dR] s.heap h' → Thrown s.heap h' e pe → E (.ref e) { s with heap := h', toks := tk' }) :
    wpAny (model PySem.Challenge.rw_pb0257_01.row.prog w) (ktrTop dp un gd cn cs L a ccd cl outer) (call (.ref 56) [.ref R, .ref 350, .ref Kt]) Q E s := by
  revert X
  k_fill
  w_on
  intro X
  let ln : Nat := match ks.foldl (stepK ws) (.ok 0 []) with | .odd pe => pe | _ => 0
  have hln : ∀ pe, ks.foldl (stepK ws) (.ok 0 []) = .odd pe → ks.foldl (stepK ws) (.ok 0 []) = .odd ln := fun pe e => by rw [show ln = pe by show (match ks.foldl (stepK ws) (.ok 0 []) with | .odd pe => pe | _ => 0) = pe; rw [e]]; exact e
  obtain ⟨ln, hln⟩ : ∃ ln, ∀ pe, ks.foldl (stepK ws) (.ok 0 []) = .odd pe → ks.foldl (stepK ws) (.ok 0 []) = .odd ln := ⟨ln, hln⟩
  refine' ct_enterE (hot := [(dR, rdDict h1 h2 h3 t1 t2 t3 Lt Dn ((0 : Nat) : Int) tp)]) (news := news) (cold := cold) (ln := ln) (Z := ks.foldl (stepK ws) (.ok 0 []) = .odd ln)
    (Post := fun tl r => ∃ b pe bs items n extras tp', ks.foldl (stepK ws) (.ok 0 []) = .ok pe bs ∧ r = .ref b ∧ tl = (b, tupObj items n) :: (dR, rdDict h1 h2 h3 t1 t2 t3 Lt Dn (pe : Int) tp') :: extras ∧ AllTup extras ∧ BrAll extras items bs)
    [(S "reader", .ref R), (S "read_body", .ref 350), (S "keys", .ref Kt)] B F X N dn.one hC dc.one T hk ?ret ?retE ?ho ?hcd ?hroom ?hbind ?hloc ?c1 ?c2 ?c3 ?c4 ?_
  case ret =>
    rintro r tl h' tk' F' N' O' ⟨b, pe, bs, items, n, extras, tp', e1, rfl, rfl, e2, e3⟩
    exact ret b pe bs items n extras tp' h' tk' e1 F' N' e2 e3
  case retE =>
    intro e h' tk' tu th zz
    exact retE e ln h' tk' zz tu th
  case ho => k_is
  case hcd => k_is
  case hroom => k_room
  case hbind => exact BindsTo.of_eq rfl
  case hloc => exact locs rfl
  case c1 => exact rfl
  case c2 => exact rfl
  case c3 => exact rfl
  case c4 => decide
  clear ret retE N hC
  have hI := hR.inst
  intro g' L' h' FG' F' N' hC' B' X' T'
  try dsimp only
  k_fold
  repeat' (first | (k_unfold; (try dsimp only)) | (k_end; first | kc_close | wrow_close) | ((with_reducible show wpAny _ _ (exec (Stmt.For _ _ _ _ _) _) _ _ _); k_here; (rename Fr _ _ _ _ => lF'); (with_unfolding_all refine' For_invVF lF' (by exact rfl) (by exact rfl) ?_); k_whole) | ((fail_if_success (with_reducible show wpAny _ _ (pyIter (Value.ref _)) _ _ _)); walk1) | ((fail_if_success (with_reducible show wpAny _ _ (pyIter (Value.ref _)) _ _ _)); dsimp only; (fail_if_success (with_reducible show wpAny _ _ (pyIter (Value.ref _)) _ _ _)); walk1) | ((fail_if_success (with_reducible show wpAny _ _ (pyIter (Value.ref _)) _ _ _)); leave1; walk_say "STEP leave1"; try dsimp only) | fail "no step")
  rename_i Bl hA l1 hB kN
  rename Fr g' L' _ _ => kF
  refine loop_tup (l := Kt) (vs := kvs) (n := nk) (BrJ ws ks R dR Lt Dn Kt Bl h1 h2 h3 t1 t2 t3) (by exact rfl) (hC' _ hK) kF kN ?start ?turn ?done
  case start =>
    refine ⟨fun z => if z = S "branches" then some (Value.ref Bl) else List.lookup z [(S "reader", Value.ref R), (S "read_body", Value.ref 350), (S "keys", Value.ref Kt)].reverse, 0, tp, [], 0, [], [], ?_, by simp, by simp, by simp, (fun q hq => by cases hq), hw0, rfl, BrAll.nil, Nat.le_refl _⟩
    funext z
    exact (ite_self _).symm
  case turn =>
    clear kF kN
    rintro i v m₁ nx I it h tk hv hit ⟨u, pz, tp', items, nb, extras, bs, rfl, mR, mB, mX, aX, hpz, hf, hb, hlen⟩ hoff F1 N1
    obtain ⟨key, tkey, hkey, rfl⟩ := hKs.get i v hv
    have N2 : News g' L' h ((I, it) :: (dR, rdDict h1 h2 h3 t1 t2 t3 Lt Dn (pz : Int) tp') :: (Bl, listOf items.toArray nb) :: extras) := fun q hq => N1 q (by
      rcases List.mem_cons.mp hq with rfl | hq
      · exact List.mem_cons_self
      rcases List.mem_cons.mp hq with rfl | hq
      · exact List.mem_cons_of_mem _ mR
      rcases List.mem_cons.mp hq with rfl | hq
      · exact List.mem_cons_of_mem _ mB
      · exact List.mem_cons_of_mem _ (mX q hq))
    clear N1 mR mB mX hoff
    have hil : items.length ≤ 16384 := by
      have h1 := hb.len
      have h2 := hKs.small
      have h3 := (List.getElem?_eq_some_iff.mp hv).1
      omega
    try dsimp only
    repeat' (first | (k_unfold; (try dsimp only)) | (k_end; first | kc_close | wrow_close) | ((with_reducible show wpAny _ _ (PySem.call (Value.ref 42) _ _) _ _ _); k_dflt (refine' opening_use _ (by k_asm) (by k_asm) (by k_asm) (by k_asm) (by k_asm) (by first | exact rfl | assumption) (by k_asm) (by assumption) (by k_mem) (by assumption) (by assumption) (by ktr_room) (by ktr_units) ?_ ?_ ?_ ?_ ?_; (intro hn' t' h' tk' F' N'); (try dsimp only); (try k_fold); rotate_left; (intro hn' hle' t' h' tk' F' N'); (try dsimp only); (try k_fold); rotate_left; (intro hn' hle' t' h' tk' F' N'); (try dsimp only); (try k_fold); rotate_left; (intro hn' hle' t' h' tk' F' N'); (try dsimp only); (try k_fold); rotate_left; (intro hn' hle' t' h' tk' F' N'); (try dsimp only); (try k_fold); rotate_left)) | ((with_reducible show wpAny _ _ (PySem.call (Value.ref 141) _ _) _ _ _); k_dflt (refine' take_use (by k_asm) (by k_asm) (by k_asm) (by k_asm) (by k_asm) (by first | exact rfl | assumption) (by k_asm) (by assumption) (by assumption) (by (repeat (first | with_reducible exact Pick.here | apply Pick.there)); done) (by (repeat' (first | exact NoCls.nil | exact AllTup.no (by assumption) (cls_ne rfl) | exact AllTup.no (by assumption) (cls_to (by assumption) (cls_ne rfl)) | refine NoCls.cons (by first | exact cls_ne rfl | exact ref_ne | exact cls_ne' (by assumption) rfl | exact cls_to (by assumption) (cls_ne rfl)) ?_)); done) (by omega) (by ktr_room) (by ktr_units) ?_; (intro _ _ _ _ _ _); (try dsimp only); (try k_fold))) | ((with_reducible show wpAny _ _ (PySem.call (Value.ref 49) _ _) _ _ _); k_dflt (refine' body_use (by k_asm) (by k_asm) (by k_asm) (by k_asm) (by k_asm) (by first | exact rfl | assumption) (by k_asm) (by assumption) (by assumption) (by (repeat (first | with_reducible exact Pick.here | apply Pick.there)); done) (by (repeat' (first | exact NoCls.nil | exact AllTup.no (by assumption) (cls_ne rfl) | exact AllTup.no (by assumption) (cls_to (by assumption) (cls_ne rfl)) | refine NoCls.cons (by first | exact cls_ne rfl | exact ref_ne | exact cls_ne' (by assumption) rfl | exact cls_to (by assumption) (cls_ne rfl)) ?_)); done) (by assumption) (by omega) (by ktr_room) (by ktr_units) ?_ ?_; (intro hc' b' q' n' n2' t' tp' h' tk' F' N'); (try dsimp only); (try k_fold); rotate_left; (intro hc' e' h' tk' tu' th'); (try dsimp only); rotate_left)) | ((with_reducible show UnrEnd _ _ _ _ _ _ _); k_dflt (refine' unrEnd_pick (by k_asm) (by k_asm) (by (repeat (first | with_reducible exact Pick.here | apply Pick.there)); done) (by (repeat' (first | exact NoCls.nil | exact AllTup.no (by assumption) (cls_ne rfl) | exact AllTup.no (by assumption) (cls_to (by assumption) (cls_ne rfl)) | refine NoCls.cons (by first | exact cls_ne rfl | exact ref_ne | exact cls_ne' (by assumption) rfl | exact cls_to (by assumption) (cls_ne rfl)) ?_)); done) ?_)) | ((with_reducible show wpAny _ _ (call (Value.builtin "list.append") [Value.ref _, _]) _ _ _); k_dflt (refine' m_append (by k_asm) (by k_asm) (by (repeat (first | with_reducible exact Pick.here | apply Pick.there)); done) (by (repeat' (first | exact NoCls.nil | exact AllTup.no (by assumption) (cls_ne rfl) | exact AllTup.no (by assumption) (cls_to (by assumption) (cls_ne rfl)) | refine NoCls.cons (by first | exact cls_ne rfl | exact ref_ne | exact cls_ne' (by assumption) rfl | exact cls_to (by assumption) (cls_ne rfl)) ?_)); done) (by assumption) ?_); intro _ _ _) | ((with_reducible show wpAny _ _ (exec (Stmt.For _ _ _ _ _) _) _ _ _); k_here; (rename Fr _ _ _ _ => lF'); (with_unfolding_all refine' For_invVF lF' (by exact rfl) (by exact rfl) ?_); k_whole) | ((with_reducible show wpAny _ _ (call (Value.type "tuple") [Value.ref _]) _ _ _); k_dflt (refine' kde_tupleOf (by k_asm) (by k_asm) (News.isList (by k_asm) (by k_mem)) (by rw [List.size_toArray]; assumption) (by exact rfl) ?_); intro _ _ _ _ _) | walk1 | (dsimp only; first | ((with_reducible show wpAny _ _ (PySem.call (Value.ref 42) _ _) _ _ _); k_dflt (refine' opening_use _ (by k_asm) (by k_asm) (by k_asm) (by k_asm) (by k_asm) (by first | exact rfl | assumption) (by k_asm) (by assumption) (by k_mem) (by assumption) (by assumption) (by ktr_room) (by ktr_units) ?_ ?_ ?_ ?_ ?_; (intro hn' t' h' tk' F' N'); (try dsimp only); (try k_fold); rotate_left; (intro hn' hle' t' h' tk' F' N'); (try dsimp only); (try k_fold); rotate_left; (intro hn' hle' t' h' tk' F' N'); (try dsimp only); (try k_fold); rotate_left; (intro hn' hle' t' h' tk' F' N'); (try dsimp only); (try k_fold); rotate_left; (intro hn' hle' t' h' tk' F' N'); (try dsimp only); (try k_fold); rotate_left)) | ((with_reducible show wpAny _ _ (PySem.call (Value.ref 141) _ _) _ _ _); k_dflt (refine' take_use (by k_asm) (by k_asm) (by k_asm) (by k_asm) (by k_asm) (by first | exact rfl | assumption) (by k_asm) (by assumption) (by assumption) (by (repeat (first | with_reducible exact Pick.here | apply Pick.there)); done) (by (repeat' (first | exact NoCls.nil | exact AllTup.no (by assumption) (cls_ne rfl) | exact AllTup.no (by assumption) (cls_to (by assumption) (cls_ne rfl)) | refine NoCls.cons (by first | exact cls_ne rfl | exact ref_ne | exact cls_ne' (by assumption) rfl | exact cls_to (by assumption) (cls_ne rfl)) ?_)); done) (by omega) (by ktr_room) (by ktr_units) ?_; (intro _ _ _ _ _ _); (try dsimp only); (try k_fold))) | ((with_reducible show wpAny _ _ (PySem.call (Value.ref 49) _ _) _ _ _); k_dflt (refine' body_use (by k_asm) (by k_asm) (by k_asm) (by k_asm) (by k_asm) (by first | exact rfl | assumption) (by k_asm) (by assumption) (by assumption) (by (repeat (first | with_reducible exact Pick.here | apply Pick.there)); done) (by (repeat' (first | exact NoCls.nil | exact AllTup.no (by assumption) (cls_ne rfl) | exact AllTup.no (by assumption) (cls_to (by assumption) (cls_ne rfl)) | refine NoCls.cons (by first | exact cls_ne rfl | exact ref_ne | exact cls_ne' (by assumption) rfl | exact cls_to (by assumption) (cls_ne rfl)) ?_)); done) (by assumption) (by omega) (by ktr_room) (by ktr_units) ?_ ?_; (intro hc' b' q' n' n2' t' tp' h' tk' F' N'); (try dsimp only); (try k_fold); rotate_left; (intro hc' e' h' tk' tu' th'); (try dsimp only); rotate_left)) | ((with_reducible show UnrEnd _ _ _ _ _ _ _); k_dflt (refine' unrEnd_pick (by k_asm) (by k_asm) (by (repeat (first | with_reducible exact Pick.here | apply Pick.there)); done) (by (repeat' (first | exact NoCls.nil | exact AllTup.no (by assumption) (cls_ne rfl) | exact AllTup.no (by assumption) (cls_to (by assumption) (cls_ne rfl)) | refine NoCls.cons (by first | exact cls_ne rfl | exact ref_ne | exact cls_ne' (by assumption) rfl | exact cls_to (by assumption) (cls_ne rfl)) ?_)); done) ?_)) | ((with_reducible show wpAny _ _ (call (Value.builtin "list.append") [Value.ref _, _]) _ _ _); k_dflt (refine' m_append (by k_asm) (by k_asm) (by (repeat (first | with_reducible exact Pick.here | apply Pick.there)); done) (by (repeat' (first | exact NoCls.nil | exact AllTup.no (by assumption) (cls_ne rfl) | exact AllTup.no (by assumption) (cls_to (by assumption) (cls_ne rfl)) | refine NoCls.cons (by first | exact cls_ne rfl | exact ref_ne | exact cls_ne' (by assumption) rfl | exact cls_to (by assumption) (cls_ne rfl)) ?_)); done) (by assumption) ?_); intro _ _ _) | ((with_reducible show wpAny _ _ (exec (Stmt.For _ _ _ _ _) _) _ _ _); k_here; (rename Fr _ _ _ _ => lF'); (with_unfolding_all refine' For_invVF lF' (by exact rfl) (by exact rfl) ?_); k_whole) | ((with_reducible show wpAny _ _ (call (Value.type "tuple") [Value.ref _]) _ _ _); k_dflt (refine' kde_tupleOf (by k_asm) (by k_asm) (News.isList (by k_asm) (by k_mem)) (by rw [List.size_toArray]; assumption) (by exact rfl) ?_); intro _ _ _ _ _) | walk1) | (leave1; walk_say "STEP leave1"; try dsimp only) | fail "no step")
    all_goals first
      | exact brJ_zero hkey (by assumption) hpz hf hb hlen aX (fun z hz => by simp only [(st_ne hz).1, (st_ne hz).2.1, (st_ne hz).2.2, hz, if_false, Bool.false_eq_true]) (by k_mem) (by k_mem) (fun x hx => by k_mem)
      | exact brJ_step 1 hkey (by assumption) (by decide) (by assumption) hl (by assumption) hf hb hlen aX (fun z hz => by simp only [(st_ne hz).1, (st_ne hz).2.1, (st_ne hz).2.2, hz, if_false, Bool.false_eq_true]) (by k_mem) (by k_mem) (by k_mem) (by k_mem) (by k_mem) (fun x hx => by k_mem)
      | exact brJ_step 2 hkey (by assumption) (by decide) (by assumption) hl (by assumption) hf hb hlen aX (fun z hz => by simp only [(st_ne hz).1, (st_ne hz).2.1, (st_ne hz).2.2, hz, if_false, Bool.false_eq_true]) (by k_mem) (by k_mem) (by k_mem) (by k_mem) (by k_mem) (fun x hx => by k_mem)
      | exact brJ_step 3 hkey (by assumption) (by decide) (by assumption) hl (by assumption) hf hb hlen aX (fun z hz => by simp only [(st_ne hz).1, (st_ne hz).2.1, (st_ne hz).2.2, hz, if_false, Bool.false_eq_true]) (by k_mem) (by k_mem) (by k_mem) (by k_mem) (by k_mem) (fun x hx => by k_mem)
      | exact brJ_step 4 hkey (by assumption) (by decide) (by assumption) hl (by assumption) hf hb hlen aX (fun z hz => by simp only [(st_ne hz).1, (st_ne hz).2.1, (st_ne hz).2.2, hz, if_false, Bool.false_eq_true]) (by k_mem) (by k_mem) (by k_mem) (by k_mem) (by k_mem) (fun x hx => by k_mem)
      | (refine' leave_on (dR := dR) B' ?F ?N ?hd ?hA ?hf ?hke ?tu ?th ?_
         (case tu => assumption)
         (case th => assumption)
         (case F => assumption)
         (case N => assumption)
         (case hd => k_mem)
         (case hA => exact rfl)
         (case hf => exact rfl)
         (case hke => exact rfl)
         intro h2 tu2 th2
         first
           | (have zz := fold_whole_odd (n := 1) hkey hf (by assumption) (by decide) (by assumption); have z2 := hln _ zz; rw [zz] at z2; cases z2; exact ⟨_, _, _, rfl, rfl, tu2, th2, zz⟩)
           | (have zz := fold_whole_odd (n := 2) hkey hf (by assumption) (by decide) (by assumption); have z2 := hln _ zz; rw [zz] at z2; cases z2; exact ⟨_, _, _, rfl, rfl, tu2, th2, zz⟩)
           | (have zz := fold_whole_odd (n := 3) hkey hf (by assumption) (by decide) (by assumption); have z2 := hln _ zz; rw [zz] at z2; cases z2; exact ⟨_, _, _, rfl, rfl, tu2, th2, zz⟩)
           | (have zz := fold_whole_odd (n := 4) hkey hf (by assumption) (by decide) (by assumption); have z2 := hln _ zz; rw [zz] at z2; cases z2; exact ⟨_, _, _, rfl, rfl, tu2, th2, zz⟩))
      | fail "left"
  case done =>
    clear kF kN
    rintro m₁ nx h tk ⟨u, pz, tp', items, nb, extras, bs, rfl, mR, mB, mX, aX, hpz, hf, hb, hlen⟩ F1 N1
    have N2 : News g' L' h ((dR, rdDict h1 h2 h3 t1 t2 t3 Lt Dn (pz : Int) tp') :: (Bl, listOf items.toArray nb) :: extras) := fun q hq => N1 q (by
      rcases List.mem_cons.mp hq with rfl | hq
      · exact mR
      rcases List.mem_cons.mp hq with rfl | hq
      · exact mB
      · exact mX q hq)
    clear N1 mR mB mX
    have hil : items.length ≤ 16384 := by
      have h1 := hb.len
      have h2 := hKs.small
      omega
    rw [hKs.len, List.take_length] at hf
    try dsimp only
    repeat' (first | (k_unfold; (try dsimp only)) | (k_end; first | kc_close | wrow_close) | ((with_reducible show wpAny _ _ (PySem.call (Value.ref 42) _ _) _ _ _); k_dflt (refine' opening_use _ (by k_asm) (by k_asm) (by k_asm) (by k_asm) (by k_asm) (by first | exact rfl | assumption) (by k_asm) (by assumption) (by k_mem) (by assumption) (by assumption) (by ktr_room) (by ktr_units) ?_ ?_ ?_ ?_ ?_; (intro hn' t' h' tk' F' N'); (try dsimp only); (try k_fold); rotate_left; (intro hn' hle' t' h' tk' F' N'); (try dsimp only); (try k_fold); rotate_left; (intro hn' hle' t' h' tk' F' N'); (try dsimp only); (try k_fold); rotate_left; (intro hn' hle' t' h' tk' F' N'); (try dsimp only); (try k_fold); rotate_left; (intro hn' hle' t' h' tk' F' N'); (try dsimp only); (try k_fold); rotate_left)) | ((with_reducible show wpAny _ _ (PySem.call (Value.ref 141) _ _) _ _ _); k_dflt (refine' take_use (by k_asm) (by k_asm) (by k_asm) (by k_asm) (by k_asm) (by first | exact rfl | assumption) (by k_asm) (by assumption) (by assumption) (by (repeat (first | with_reducible exact Pick.here | apply Pick.there)); done) (by (repeat' (first | exact NoCls.nil | exact AllTup.no (by assumption) (cls_ne rfl) | exact AllTup.no (by assumption) (cls_to (by assumption) (cls_ne rfl)) | refine NoCls.cons (by first | exact cls_ne rfl | exact ref_ne | exact cls_ne' (by assumption) rfl | exact cls_to (by assumption) (cls_ne rfl)) ?_)); done) (by omega) (by ktr_room) (by ktr_units) ?_; (intro _ _ _ _ _ _); (try dsimp only); (try k_fold))) | ((with_reducible show wpAny _ _ (PySem.call (Value.ref 49) _ _) _ _ _); k_dflt (refine' body_use (by k_asm) (by k_asm) (by k_asm) (by k_asm) (by k_asm) (by first | exact rfl | assumption) (by k_asm) (by assumption) (by assumption) (by (repeat (first | with_reducible exact Pick.here | apply Pick.there)); done) (by (repeat' (first | exact NoCls.nil | exact AllTup.no (by assumption) (cls_ne rfl) | exact AllTup.no (by assumption) (cls_to (by assumption) (cls_ne rfl)) | refine NoCls.cons (by first | exact cls_ne rfl | exact ref_ne | exact cls_ne' (by assumption) rfl | exact cls_to (by assumption) (cls_ne rfl)) ?_)); done) (by assumption) (by omega) (by ktr_room) (by ktr_units) ?_ ?_; (intro hc' b' q' n' n2' t' tp' h' tk' F' N'); (try dsimp only); (try k_fold); rotate_left; (intro hc' e' h' tk' tu' th'); (try dsimp only); rotate_left)) | ((with_reducible show UnrEnd _ _ _ _ _ _ _); k_dflt (refine' unrEnd_pick (by k_asm) (by k_asm) (by (repeat (first | with_reducible exact Pick.here | apply Pick.there)); done) (by (repeat' (first | exact NoCls.nil | exact AllTup.no (by assumption) (cls_ne rfl) | exact AllTup.no (by assumption) (cls_to (by assumption) (cls_ne rfl)) | refine NoCls.cons (by first | exact cls_ne rfl | exact ref_ne | exact cls_ne' (by assumption) rfl | exact cls_to (by assumption) (cls_ne rfl)) ?_)); done) ?_)) | ((with_reducible show wpAny _ _ (call (Value.builtin "list.append") [Value.ref _, _]) _ _ _); k_dflt (refine' m_append (by k_asm) (by k_asm) (by (repeat (first | with_reducible exact Pick.here | apply Pick.there)); done) (by (repeat' (first | exact NoCls.nil | exact AllTup.no (by assumption) (cls_ne rfl) | exact AllTup.no (by assumption) (cls_to (by assumption) (cls_ne rfl)) | refine NoCls.cons (by first | exact cls_ne rfl | exact ref_ne | exact cls_ne' (by assumption) rfl | exact cls_to (by assumption) (cls_ne rfl)) ?_)); done) (by assumption) ?_); intro _ _ _) | ((with_reducible show wpAny _ _ (exec (Stmt.For _ _ _ _ _) _) _ _ _); k_here; (rename Fr _ _ _ _ => lF'); (with_unfolding_all refine' For_invVF lF' (by exact rfl) (by exact rfl) ?_); k_whole) | ((with_reducible show wpAny _ _ (call (Value.type "tuple") [Value.ref _]) _ _ _); k_dflt (refine' kde_tupleOf (by k_asm) (by k_asm) (News.isList (by k_asm) (by k_mem)) (by rw [List.size_toArray]; assumption) (by exact rfl) ?_); intro _ _ _ _ _) | walk1 | (dsimp only; first | ((with_reducible show wpAny _ _ (PySem.call (Value.ref 42) _ _) _ _ _); k_dflt (refine' opening_use _ (by k_asm) (by k_asm) (by k_asm) (by k_asm) (by k_asm) (by first | exact rfl | assumption) (by k_asm) (by assumption) (by k_mem) (by assumption) (by assumption) (by ktr_room) (by ktr_units) ?_ ?_ ?_ ?_ ?_; (intro hn' t' h' tk' F' N'); (try dsimp only); (try k_fold); rotate_left; (intro hn' hle' t' h' tk' F' N'); (try dsimp only); (try k_fold); rotate_left; (intro hn' hle' t' h' tk' F' N'); (try dsimp only); (try k_fold); rotate_left; (intro hn' hle' t' h' tk' F' N'); (try dsimp only); (try k_fold); rotate_left; (intro hn' hle' t' h' tk' F' N'); (try dsimp only); (try k_fold); rotate_left)) | ((with_reducible show wpAny _ _ (PySem.call (Value.ref 141) _ _) _ _ _); k_dflt (refine' take_use (by k_asm) (by k_asm) (by k_asm) (by k_asm) (by k_asm) (by first | exact rfl | assumption) (by k_asm) (by assumption) (by assumption) (by (repeat (first | with_reducible exact Pick.here | apply Pick.there)); done) (by (repeat' (first | exact NoCls.nil | exact AllTup.no (by assumption) (cls_ne rfl) | exact AllTup.no (by assumption) (cls_to (by assumption) (cls_ne rfl)) | refine NoCls.cons (by first | exact cls_ne rfl | exact ref_ne | exact cls_ne' (by assumption) rfl | exact cls_to (by assumption) (cls_ne rfl)) ?_)); done) (by omega) (by ktr_room) (by ktr_units) ?_; (intro _ _ _ _ _ _); (try dsimp only); (try k_fold))) | ((with_reducible show wpAny _ _ (PySem.call (Value.ref 49) _ _) _ _ _); k_dflt (refine' body_use (by k_asm) (by k_asm) (by k_asm) (by k_asm) (by k_asm) (by first | exact rfl | assumption) (by k_asm) (by assumption) (by assumption) (by (repeat (first | with_reducible exact Pick.here | apply Pick.there)); done) (by (repeat' (first | exact NoCls.nil | exact AllTup.no (by assumption) (cls_ne rfl) | exact AllTup.no (by assumption) (cls_to (by assumption) (cls_ne rfl)) | refine NoCls.cons (by first | exact cls_ne rfl | exact ref_ne | exact cls_ne' (by assumption) rfl | exact cls_to (by assumption) (cls_ne rfl)) ?_)); done) (by assumption) (by omega) (by ktr_room) (by ktr_units) ?_ ?_; (intro hc' b' q' n' n2' t' tp' h' tk' F' N'); (try dsimp only); (try k_fold); rotate_left; (intro hc' e' h' tk' tu' th'); (try dsimp only); rotate_left)) | ((with_reducible show UnrEnd _ _ _ _ _ _ _); k_dflt (refine' unrEnd_pick (by k_asm) (by k_asm) (by (repeat (first | with_reducible exact Pick.here | apply Pick.there)); done) (by (repeat' (first | exact NoCls.nil | exact AllTup.no (by assumption) (cls_ne rfl) | exact AllTup.no (by assumption) (cls_to (by assumption) (cls_ne rfl)) | refine NoCls.cons (by first | exact cls_ne rfl | exact ref_ne | exact cls_ne' (by assumption) rfl | exact cls_to (by assumption) (cls_ne rfl)) ?_)); done) ?_)) | ((with_reducible show wpAny _ _ (call (Value.builtin "list.append") [Value.ref _, _]) _ _ _); k_dflt (refine' m_append (by k_asm) (by k_asm) (by (repeat (first | with_reducible exact Pick.here | apply Pick.there)); done) (by (repeat' (first | exact NoCls.nil | exact AllTup.no (by assumption) (cls_ne rfl) | exact AllTup.no (by assumption) (cls_to (by assumption) (cls_ne rfl)) | refine NoCls.cons (by first | exact cls_ne rfl | exact ref_ne | exact cls_ne' (by assumption) rfl | exact cls_to (by assumption) (cls_ne rfl)) ?_)); done) (by assumption) ?_); intro _ _ _) | ((with_reducible show wpAny _ _ (exec (Stmt.For _ _ _ _ _) _) _ _ _); k_here; (rename Fr _ _ _ _ => lF'); (with_unfolding_all refine' For_invVF lF' (by exact rfl) (by exact rfl) ?_); k_whole) | ((with_reducible show wpAny _ _ (call (Value.type "tuple") [Value.ref _]) _ _ _); k_dflt (refine' kde_tupleOf (by k_asm) (by k_asm) (News.isList (by k_asm) (by k_mem)) (by rw [List.size_toArray]; assumption) (by exact rfl) ?_); intro _ _ _ _ _) | walk1) | (leave1; walk_say "STEP leave1"; try dsimp only) | fail "no step")
    exact EndE.sub (_ :: (dR, rdDict h1 h2 h3 t1 t2 t3 Lt Dn (pz : Int) tp') :: extras) (by assumption) (by assumption) (sub_cons List.mem_cons_self (sub_cons (by k_mem) (fun x hx => by k_mem))) ⟨_, _, _, _, _, _, _, hf, rfl, rfl, aX, hb⟩
end
end
section
section
open PyProof.Rows.LCg
/-- the end of a comprehension's turn -/
noncomputable def TurnEnd (h₀ : Heap) (L : Addr) (m : PySem.Str → Option Value) (s₁ : Shared) (own : Led) (C D : Addr) (wr : List Addr) (ys : List Value) (J : List Value → Led → Prop) (y : Value) (s₂ : Shared) : Prop :=
  ∃ h' tk oC m₂ news', s₂ = { s₁ with heap := h', toks := tk } ∧ NsObj oC m₂ ∧ Fr h₀ L h' m ∧ News h₀ L h' (own ++ (C, oC) :: (D, lst ys) :: news') ∧ (∀ p ∈ news', p.1 ∉ wr ∧ p.1 ≠ C ∧ p.1 ≠ D) ∧ J (ys ++ [y]) news'
variable {prog : Program} {w : World} {A : Around} {E : Value → Shared → Prop} {s : Shared} {h₀ : Heap} {L : Addr} {m : PySem.Str → Option Value} {env : Env}
/-- a list comprehension of one clause, any target, any iterator whose turns are known -/
theorem comp_turns {elt target iter : PySem.Expr} {scope : Scope} {cl : List (PySem.Str × Addr)} {pos : Pos} {I : Addr} {fp wr : List Addr} {n : Nat} {P Md : Nat → Value → Heap → Prop} {St : Nat → Heap → Prop} {news : Led}
    {RR : Value → Addr → Result → Shared → Prop}
    (W : KTurns prog w A target I fp wr n P Md St) (hself : ∀ (s : Shared) (Q : Value → Shared → Prop) (E : Value → Shared → Prop), St 0 s.heap → Q (.ref I) s → wpAny (model prog w) A (pyIter (.ref I)) Q E s) (hsz : n ≤ sizeLine)
    (hcell : ∀ y ∈ scope.names, y.2 ≠ .cell) (hkind : scope.kind = .function) (hst : St 0 s.heap) (hfp : ∀ b ∈ fp, b < s.heap.objs.size)
    (F : Fr h₀ L s.heap m) (N : News h₀ L s.heap news) (hLf : L ∉ fp) (hwr : ∀ b ∈ wr, h₀.get? b = none) (off : ∀ p ∈ news, p.1 ∉ wr)
    (J : Nat → List Value → Led → Prop) (h0 : J 0 [] news)
    (step : ∀ i v ys m₁ news₁ h₁ tk₁ own C oC D (E' : Value → Shared → Prop), i < n → P i v h₁ → J i ys news₁ → (∀ p ∈ news₁, p.1 ∉ wr ∧ p.1 ≠ C ∧ p.1 ≠ D) → (∀ p ∈ own, p.1 ∈ fp ∧ p.1 ≠ C ∧ p.1 ≠ D) → C ≠ D → C ≠ L → (∀ b ∈ fp, b < D) → h₀.get? C = none → NsObj oC m₁ → Fr h₀ L h₁ m → News h₀ L h₁ (own ++ (C, oC) :: (D, lst ys) :: news₁) →
      wpAny (model prog w) A (assign target (compEnvC scope cl C env) v) (fun _ s₃ => wpAny (model prog w) A (eval elt (compEnvC scope cl C env))
        (TurnEnd h₀ L m { s with heap := h₁, toks := tk₁ } own C D wr ys (J (i + 1))) E' s₃) E' { s with heap := h₁, toks := tk₁ })
    (hRR : ∀ D C h tk m' ys news', Fr h₀ L h m → News h₀ L h ((D, lst ys) :: news') → (∀ p ∈ news', p.1 ∉ wr ∧ p.1 ≠ C ∧ p.1 ≠ D) → h.Ns C m' → h₀.get? C = none → C ≠ L → C ≠ D → J n ys news' → RR (.ref D) C (.ok .next) { s with heap := h, toks := tk }) :
    wpAny (model prog w) A (newList []) (fun acc s₃ => wpAny (model prog w) A (newFunctionEnv scope env.globals cl [] env.qual none .none (some env)) (fun cenv s₄ =>
      codeAny (model prog w) A (.compStart (.ListComp elt [⟨target, iter, [], 0⟩] scope pos) 0 (.ref I) acc { cenv with scope := relabel scope env }) (RR acc cenv.locals) s₄) E s₃) E s := by
  refine wpAny_newObj_type (wpAny_newFunctionEnv hcell (by intro y hy; simp at hy) (fun h₁ hns₁ hsb₁ => ?_) hkind)
  dsimp only at hns₁ hsb₁ ⊢
  generalize hH2 : s.heap.push { cls := .type "list", dict := none, data := .seq ([] : List Value).toArray } = H2 at hns₁ hsb₁ ⊢
  generalize hDe : s.heap.objs.size = D at *
  have hCe : H2.objs.size = D + 1 := by rw [← hH2, Heap.size_push, hDe]
  generalize hC' : H2.objs.size = C at *
  have hCD : C ≠ D := by rw [hCe]; exact Nat.succ_ne_self D
  have below : ∀ b, b < D → b ≠ C ∧ b ≠ D := fun b hb => ⟨by rw [hCe]; exact Nat.ne_of_lt (Nat.lt_succ_of_lt hb), Nat.ne_of_lt hb⟩
  have hDf : D ∉ fp := fun hm => Nat.lt_irrefl _ (hfp _ hm)
  have hCf : C ∉ fp := fun hm => by have := hfp _ hm; rw [hCe] at this; exact Nat.lt_irrefl _ (Nat.lt_of_succ_lt this)
  have old : ∀ b o, s.heap.get? b = some o → h₁.get? b = some o := fun b o e => hsb₁.extBut b o (below b (hDe ▸ Heap.lt_size e)).1 (Heap.get?_push_of_some _ (hH2 ▸ Heap.get?_push_of_some _ e))
  have hacc : h₁.get? D = some (lst []) := hsb₁.extBut _ _ (Ne.symm hCD) (Heap.get?_push_of_some _ (by rw [← hH2, ← hDe]; exact Heap.get?_push_size _ rfl))
  have fresh₀ : ∀ a, D ≤ a → h₀.get? a = none := fun a ha => by
    cases e : h₀.get? a with
    | none => rfl
    | some o' => exact absurd (hDe ▸ Heap.lt_size (F.keep a o' e)) (Nat.not_lt.mpr ha)
  have hD₀ : h₀.get? D = none := fresh₀ _ (Nat.le_refl _)
  have hC₀ : h₀.get? C = none := fresh₀ _ (by rw [hCe]; exact Nat.le_succ _)
  have hLlt : L < D := hDe ▸ F.ns.lt
  have hDL : D ≠ L := Ne.symm (below L hLlt).2
  have hCL : C ≠ L := Ne.symm (below L hLlt).1
  have hLw : L ∉ wr := fun h => hLf (W.sub _ h)
  have oldw : ∀ b o, h₀.get? b = some o → b ∉ wr := fun b o e hb => by rw [hwr b hb] at e; cases e
  have hDw : D ∉ wr := fun h => hDf (W.sub _ h)
  have hCw : C ∉ wr := fun h => hCf (W.sub _ h)
  have ofree : ∀ g : Heap, ∀ p ∈ PyProof.Rows.ownOf h₀ fp g, p.1 ∈ fp ∧ p.1 ≠ C ∧ p.1 ≠ D := fun g p hp => ⟨ownOf_sub p hp, fun e => hCf (e ▸ ownOf_sub p hp), fun e => hDf (e ▸ ownOf_sub p hp)⟩
  have loop : ∀ s₃ : Shared, s₃ = { s with heap := h₁, toks := s.toks + ([] : List (PySem.Str × Value)).length } →
      codeAny (model prog w) A (.compLoop (.ListComp elt [⟨target, iter, [], 0⟩] scope pos) 0 (.ref I) (.ref D) (compEnvC scope cl C env)) (RR (.ref D) C) s₃ := by
    rintro s₃ rfl
    refine kcp_loop
      (fun k s' => ∃ h' tk i ys m' news', s' = { s with heap := h', toks := tk } ∧ i ≤ n ∧ k = n + 1 - i ∧ ys.length = i ∧ St i h' ∧ Fr h₀ L h' m ∧ h'.Ns C m' ∧ News h₀ L h' ((D, lst ys) :: news') ∧
        (∀ p ∈ news', p.1 ∉ wr ∧ p.1 ≠ C ∧ p.1 ≠ D) ∧ J i ys news') ?_ (n + 1)
      ⟨h₁, _, 0, [], _, news, rfl, Nat.zero_le _, rfl, rfl, W.frame _ _ _ hst fun b _ o e => old b o e, F.keeps old, hns₁, fun p hp => ?_, fun p hp => ⟨off p hp, below _ (hDe ▸ Heap.lt_size (N p hp).1)⟩, h0⟩
    · rintro k s' ⟨h', tk, i, ys, m', news', rfl, hi, rfl, hyl, hst', F', hn', N', off', hJ⟩
      have next : ∀ h₂ : Heap, (∀ b o, b ∉ wr → h'.get? b = some o → h₂.get? b = some o) → Fr h₀ L h₂ m ∧ h₂.Ns C m' ∧ News h₀ L h₂ ((D, lst ys) :: news') := fun h₂ hk₂ =>
        ⟨⟨F'.ns.at' fun o e => hk₂ _ o hLw e, fun b o e => hk₂ b o (oldw b o e) (F'.keep b o e), F'.above⟩, hn'.at' fun o e => hk₂ _ o hCw e, fun p hp => ⟨hk₂ _ _ (by
          rcases List.mem_cons.mp hp with rfl | hp
          · exact hDw
          · exact (off' p hp).1) (N' p hp).1, (N' p hp).2⟩⟩
      by_cases hlt : i < n
      · refine W.item i _ _ _ hlt hst' fun v h₂ tk₂ hMd hk₂ => ?_
        refine W.go i v _ _ _ hMd fun h₃ hP hst₃ hk₃ => ?_
        obtain ⟨F₃, hn₃, N₃⟩ := next h₃ fun b o hb x => hk₃ b o hb (hk₂ b o hb x)
        obtain ⟨oC, heC, hoC⟩ := ns_obj hn₃
        have Nown : News h₀ L h₃ (PyProof.Rows.ownOf h₀ fp h₃) := news_ownOf hLf
        have N₃' : News h₀ L h₃ (PyProof.Rows.ownOf h₀ fp h₃ ++ (C, oC) :: (D, lst ys) :: news') := Nown.append fun p hp => by
          rcases List.mem_cons.mp hp with rfl | hp
          · exact ⟨heC, hCL, hC₀⟩
          · exact N₃ p hp
        refine wpAny_mono (step i v ys m' news' h₃ tk₂ _ C oC D _ hlt hP hJ off' (ofree _) hCD hCL hfp hC₀ hoC F₃ N₃') (fun _ s₄ h₄ => wpAny_mono h₄ (fun y s₅ h₅ => ?_) fun _ _ e => e) fun _ _ e => e
        obtain ⟨h₅, tk₅, oC₅, m₅, news₅, rfl, hoC₅, F₅, N₅, off₅, J₅⟩ := h₅
        have zC := (N₅ (C, oC₅) (List.mem_append_right _ List.mem_cons_self)).1
        have zD := (N₅ (D, lst ys) (List.mem_append_right _ (List.mem_cons_of_mem _ List.mem_cons_self))).1
        have zN : News h₀ L h₅ news₅ := fun p hp => N₅ p (List.mem_append_right _ (List.mem_cons_of_mem _ (List.mem_cons_of_mem _ hp)))
        have hst₅ : St (i + 1) h₅ := W.frame _ _ _ hst₃ fun b hb o e => by
          cases hn : h₀.get? b with
          | some o₀ =>
            have : o₀ = o := by have q := F₃.keep b o₀ hn; rw [e] at q; exact (Option.some.inj q).symm
            exact this ▸ F₅.keep b o₀ hn
          | none => exact (N₅ _ (List.mem_append_left _ (mem_ownOf hb hn e))).1
        refine append_at (hsz := by show ys.toArray.size ≤ sizeLine; rw [List.size_toArray, hyl]; exact Nat.le_trans hi hsz) zD fun h₆ hs₆ hD₆ => ?_
        refine ⟨n + 1 - (i + 1), by omega, h₆, tk₅, i + 1, ys ++ [y], _, news₅, rfl, hlt, rfl, by rw [List.length_append, List.length_singleton, hyl], W.frame _ _ _ hst₅ fun b hb o e => hs₆.extBut b o (fun q => hDf (q ▸ hb)) e, F₅.change hs₆ hDL hD₀,
          (hoC₅.ns zC).sameBut hs₆ hCD, fun p hp => ?_, off₅, J₅⟩
        rcases List.mem_cons.mp hp with rfl | hp
        · exact ⟨hD₆.trans (congrArg some (lst_snoc ys y)), hDL, hD₀⟩
        · exact ⟨hs₆.extBut _ _ (off₅ p hp).2.2 (zN p hp).1, (zN p hp).2⟩
      · obtain rfl : i = n := Nat.le_antisymm hi (Nat.not_lt.mp hlt)
        refine W.done _ _ _ hst' fun h₂ tk₂ hk₂ => ?_
        obtain ⟨F₂, hn₂, N₂⟩ := next h₂ hk₂
        exact hRR _ _ h₂ tk₂ _ ys news' F₂ N₂ off' hn₂ hC₀ hCL hCD hJ
    · rcases List.mem_cons.mp hp with rfl | hp
      · exact ⟨hacc, hDL, hD₀⟩
      · exact ⟨old _ _ (N p hp).1, (N p hp).2⟩
  exact codeAny_compStart_list (loop _ rfl) (hself _ _ _ (W.frame _ _ _ hst fun b _ o e => old b o e) (loop _ rfl))
end
section
open PyProof.Rows.LCg
variable {prog : Program} {w : World} {A : Around} {E : Value → Shared → Prop} {s : Shared} {h₀ : Heap} {L : Addr} {m : PySem.Str → Option Value} {env : Env}
noncomputable def CompAt (prog : Program) (w : World) (A : Around) (h₀ : Heap) (L : Addr) (m : PySem.Str → Option Value) (env : Env) (elt target : PySem.Expr) (scope : Scope) (cl : List (PySem.Str × Addr)) (Q : Value → Shared → Prop) (it : Value) (s : Shared) : Prop :=
  ∃ (I : Addr) (fp wr : List Addr) (n : Nat) (P Md : Nat → Value → Heap → Prop) (St : Nat → Heap → Prop) (news : Led) (J : Nat → List Value → Led → Prop),
    it = .ref I ∧ KTurns prog w A target I fp wr n P Md St ∧ (∀ (s : Shared) (Q : Value → Shared → Prop) (E : Value → Shared → Prop), St 0 s.heap → Q (.ref I) s → wpAny (model prog w) A (pyIter (.ref I)) Q E s) ∧ n ≤ sizeLine ∧
    St 0 s.heap ∧ (∀ b ∈ fp, b < s.heap.objs.size) ∧ Fr h₀ L s.heap m ∧ News h₀ L s.heap news ∧ L ∉ fp ∧ (∀ b ∈ wr, h₀.get? b = none) ∧ (∀ p ∈ news, p.1 ∉ wr) ∧ J 0 [] news ∧
    (∀ i v ys m₁ news₁ h₁ tk₁ own C oC D (E' : Value → Shared → Prop), i < n → P i v h₁ → J i ys news₁ → (∀ p ∈ news₁, p.1 ∉ wr ∧ p.1 ≠ C ∧ p.1 ≠ D) → (∀ p ∈ own, p.1 ∈ fp ∧ p.1 ≠ C ∧ p.1 ≠ D) → C ≠ D → C ≠ L → (∀ b ∈ fp, b < D) → h₀.get? C = none → NsObj oC m₁ → Fr h₀ L h₁ m → News h₀ L h₁ (own ++ (C, oC) :: (D, lst ys) :: news₁) →
      wpAny (model prog w) A (assign target (compEnvC scope cl C env) v) (fun _ s₃ => wpAny (model prog w) A (eval elt (compEnvC scope cl C env))
        (TurnEnd h₀ L m { s with heap := h₁, toks := tk₁ } own C D wr ys (J (i + 1))) E' s₃) E' { s with heap := h₁, toks := tk₁ }) ∧
    ∀ D h tk ys news', Fr h₀ L h m → News h₀ L h ((D, lst ys) :: news') → (∀ p ∈ news', p.1 ∉ wr ∧ p.1 ≠ D) → J n ys news' → Q (.ref D) { s with heap := h, toks := tk }
theorem ListComp_turns {elt target iter : PySem.Expr} {scope : Scope} {cl : List (PySem.Str × Addr)} {pos : Pos} {Q : Value → Shared → Prop} (_F₀ : Fr h₀ L s.heap m)
    (hclos : closureFor scope env = pure cl) (hcell : ∀ y ∈ scope.names, y.2 ≠ .cell) (hkind : scope.kind = .function)
    (hnames : ∀ y ∈ scope.names, y.2 = .local → scope.names.lookup y.1 = some .local)
    (h : wpAny (model prog w) A (eval iter env) (fun xv s₁ => wpAny (model prog w) A (pyIter xv) (fun it s₂ => CompAt prog w A h₀ L m env elt target scope cl Q it s₂) E s₁) E s)
    (hs : ∀ x, foldedSetIterable iter env x = pure x := by intro _; rfl) :
    wpAny (model prog w) A (eval (.ListComp elt [⟨target, iter, [], 0⟩] scope pos) env) Q E s := by
  rw [eval_ListComp]
  refine wpAny_comprehension_free (use := none) rfl hs hclos hkind hnames (wpAny_mono h (fun xv s₁ h₁ => wpAny_mono h₁ (fun it s₂ h₂ => ?_) fun _ _ e => e) fun _ _ e => e)
  obtain ⟨I, fp, wr, n, P, Md, St, news, J, rfl, W, hself, hsz, hst, hfp, F, N, hLf, hwr, off, h0, step, fin⟩ := h₂
  refine comp_turns W hself hsz hcell hkind hst hfp F N hLf hwr off J h0 step ?_
  intro D C h tk m' ys news' F' N' off' hn hC₀ hCL hCD hJ
  refine ⟨m', hn, fun h'' hs'' => fin D h'' tk ys news' (F'.change hs'' hCL hC₀) (fun p hp => ?_) (fun p hp => ⟨(off' p hp).1, (off' p hp).2.2⟩) hJ⟩
  refine ⟨hs''.extBut _ _ ?_ (N' p hp).1, (N' p hp).2⟩
  rcases List.mem_cons.mp hp with rfl | hp
  · exact Ne.symm hCD
  · exact (off' p hp).2.1
end
end
section
section
open PyProof.Rows.LCg
variable {prog : Program} {w : World} {A : Around} {E : Value → Shared → Prop} {s : Shared} {h₀ : Heap} {L : Addr} {m : PySem.Str → Option Value} {env : Env}
theorem kturns_rows {elts : List PySem.Expr} {k : Nat} {pos : Pos} (hh : A.handled = none) (I l : Addr) (hne : l ≠ I) (items : Array Value) (hr : ∀ (i : Nat) (v : Value), items[i]? = some v → ∃ T : Addr, v = Value.ref T) :
    KTurns prog w A (.Tuple elts k pos) I [I, l] [I] items.size (fun i v _ => items[i]? = some v) (fun i v h => items[i]? = some v ∧ (h.IsListIter I l (i + 1) ∧ h.IsList l items)) (fun i h => h.IsListIter I l i ∧ h.IsList l items) where
  sub := (Walks.list (prog := prog) (w := w) hh I l hne items).sub
  frame := (Walks.list (prog := prog) (w := w) hh I l hne items).frame
  item := fun i s Q E hi st hQ => (Walks.list (prog := prog) (w := w) hh I l hne items).item i s Q E hi st fun v h' tk hP st' hk => hQ v h' tk ⟨hP, st'⟩ hk
  go := fun i v s Q E hm hQ => by
    obtain ⟨T, rfl⟩ := hr i v hm.1
    exact wpAny_letOwnedTupleGo_listiter hm.2.1 (hQ s.heap hm.1 hm.2 fun _ _ _ e => e)
  done := (Walks.list (prog := prog) (w := w) hh I l hne items).done
theorem TurnEnd.grow {s₁ : Shared} {own : Led} {C D : Addr} {wr fp : List Addr} {ys : List Value} {J : List Value → Led → Prop} {y : Value} {h₁ h' : Heap} {tk : Nat} {oC : Obj} {m₂ : PySem.Str → Option Value} {news₁ : Led} (extra : Led)
    (F : Fr h₀ L h₁ m) (N : News h₀ L h₁ (own ++ (C, oC) :: (D, lst ys) :: news₁)) (hCD : C ≠ D) (hCL : C ≠ L) (hC₀ : h₀.get? C = none) (hfp : ∀ b ∈ fp, b < D) (hw : ∀ b ∈ wr, b ∈ fp)
    (offO : ∀ p ∈ own, p.1 ∈ fp ∧ p.1 ≠ C ∧ p.1 ≠ D) (off : ∀ p ∈ news₁, p.1 ∉ wr ∧ p.1 ≠ C ∧ p.1 ≠ D)
    (hk : ∀ b o, b ≠ C → h₁.get? b = some o → h'.get? b = some o) (hn : h'.Ns C m₂) (hx : ∀ q ∈ extra, h'.get? q.1 = some q.2 ∧ h₁.objs.size ≤ q.1) (hJ : J (ys ++ [y]) (extra ++ news₁)) :
    TurnEnd h₀ L m s₁ own C D wr ys J y { s₁ with heap := h', toks := tk } := by
  obtain ⟨oC', heC, hoC⟩ := ns_obj hn
  have hD := (N (D, lst ys) (List.mem_append_right _ (List.mem_cons_of_mem _ List.mem_cons_self)))
  have hCs := (N (C, oC) (List.mem_append_right _ List.mem_cons_self))
  have hDs : D < h₁.objs.size := Heap.lt_size hD.1
  have hCl : C < h₁.objs.size := Heap.lt_size hCs.1
  have hLl : L < h₁.objs.size := F.ns.lt
  have hL₀ : h₀.get? L = none := Heap.get?_none_of_le F.above
  have fresh : ∀ a, h₁.objs.size ≤ a → h₀.get? a = none := fun a ha => by
    cases e : h₀.get? a with
    | none => rfl
    | some o' => exact absurd (Heap.lt_size (F.keep a o' e)) (Nat.not_lt.mpr ha)
  refine ⟨h', tk, oC', m₂, extra ++ news₁, rfl, hoC, ⟨F.ns.at' fun o e => hk _ o (Ne.symm hCL) e, fun b o e => hk b o (fun q => by rw [q, hC₀] at e; cases e) (F.keep b o e), F.above⟩, fun p hp => ?_, fun p hp => ?_, hJ⟩
  · rcases List.mem_append.mp hp with hp | hp
    · have z := N p (List.mem_append_left _ hp)
      exact ⟨hk _ _ (offO p hp).2.1 z.1, z.2⟩
    · rcases List.mem_cons.mp hp with rfl | hp
      · exact ⟨heC, hCL, hC₀⟩
      · rcases List.mem_cons.mp hp with rfl | hp
        · exact ⟨hk _ _ (Ne.symm hCD) hD.1, hD.2⟩
        · rcases List.mem_append.mp hp with hp | hp
          · have := (hx p hp).2
            exact ⟨(hx p hp).1, fun e => Nat.not_lt.mpr this (e ▸ hLl), fresh _ this⟩
          · have z := N p (List.mem_append_right _ (List.mem_cons_of_mem _ (List.mem_cons_of_mem _ hp)))
            exact ⟨hk _ _ (off p hp).2.1 z.1, z.2⟩
  · rcases List.mem_append.mp hp with hp | hp
    · have := (hx p hp).2
      exact ⟨fun hm => Nat.not_lt.mpr this (Nat.lt_trans (hfp _ (hw _ hm)) hDs), fun e => Nat.not_lt.mpr this (e ▸ hCl), fun e => Nat.not_lt.mpr this (e ▸ hDs)⟩
    · exact off p hp
/-- a comprehension over a list of tuples that stands in the base -/
theorem comp_rows {elt : PySem.Expr} {elts : List PySem.Expr} {k : Nat} {pos : Pos} {scope : Scope} {cl : List (PySem.Str × Addr)} {l : Addr} {vs : List Value} {nl : Nat} {news : Led} {Q : Value → Shared → Prop} (J : Nat → List Value → Led → Prop)
    (hh : A.handled = none) (hl : h₀.get? l = some (listOf vs.toArray nl)) (hr : ∀ (i : Nat) (v : Value), vs[i]? = some v → ∃ T : Addr, v = Value.ref T) (hz : vs.length ≤ sizeLine) (F : Fr h₀ L s.heap m) (N : News h₀ L s.heap news) (hj : J 0 [] news)
    (turn : ∀ i v ys news₁ h₁ tk₁ own C oC D m₁ (E' : Value → Shared → Prop), vs[i]? = some v → J i ys news₁ → (∀ p ∈ news₁, p.1 ∉ [s.heap.objs.size] ∧ p.1 ≠ C ∧ p.1 ≠ D) → (∀ p ∈ own, p.1 ∈ [s.heap.objs.size, l] ∧ p.1 ≠ C ∧ p.1 ≠ D) → C ≠ D → C ≠ L → (∀ b ∈ [s.heap.objs.size, l], b < D) → h₀.get? C = none → NsObj oC m₁ → Fr h₀ L h₁ m → News h₀ L h₁ (own ++ (C, oC) :: (D, lst ys) :: news₁) →
      wpAny (model prog w) A (assign (.Tuple elts k pos) (compEnvC scope cl C env) v) (fun _ s₃ => wpAny (model prog w) A (eval elt (compEnvC scope cl C env))
        (TurnEnd h₀ L m { s with heap := h₁, toks := tk₁ } own C D [s.heap.objs.size] ys (J (i + 1))) E' s₃) E' { s with heap := h₁, toks := tk₁ })
    (done : ∀ D h tk ys news', Fr h₀ L h m → News h₀ L h ((D, lst ys) :: news') → (∀ p ∈ news', p.1 ≠ D) → J vs.length ys news' → Q (.ref D) { s with heap := h, toks := tk }) :
    wpAny (model prog w) A (pyIter (.ref l)) (fun it s₂ => CompAt prog w A h₀ L m env elt (.Tuple elts k pos) scope cl Q it s₂) E s := by
  have hls : s.heap.IsList l vs.toArray := ⟨_, F.keep _ _ hl, rfl, _, rfl⟩
  have hlt : l < h₀.objs.size := Heap.lt_size hl
  have hls' : l < s.heap.objs.size := Heap.lt_size (F.keep _ _ hl)
  have hlL : l ≠ L := Nat.ne_of_lt (Nat.lt_of_lt_of_le hlt F.above)
  refine wpAny_pyIter_list hls ?_
  have up : ∀ b o, s.heap.get? b = some o → (s.heap.push { cls := .type "list_iterator", data := .fields #[.ref l, .int 0 0] }).get? b = some o := fun b o e => Heap.get?_push_of_some _ e
  have W := kturns_rows (prog := prog) (w := w) (elts := elts) (k := k) (pos := pos) hh s.heap.objs.size l (Nat.ne_of_lt hls') vs.toArray (fun i v e => hr i v (by simpa using e))
  refine ⟨_, _, _, _, _, _, _, news, J, rfl, W, fun _ _ _ st hQ => wpAny_pyIter_listiter st.1 hQ, by simpa using hz, ⟨⟨_, Heap.get?_push_size _ rfl, rfl, rfl⟩, hls.push _⟩, fun b hb => ?_, F.keeps up, N.grown up, fun hm => ?_, fun b hb => ?_, fun p hp hI => ?_, hj, ?_, ?_⟩
  · show b < (s.heap.push _).objs.size
    rw [Heap.size_push]
    rcases List.mem_cons.mp hb with rfl | hb
    · exact Nat.lt_succ_self _
    · rw [List.mem_singleton.mp hb]; exact Nat.lt_succ_of_lt hls'
  · rcases List.mem_cons.mp hm with e | hm
    · exact absurd F.ns.lt (e ▸ Nat.lt_irrefl _)
    · exact hlL (List.mem_singleton.mp hm).symm
  · rw [List.mem_singleton.mp hb]; exact next_is_new F
  · exact absurd (Heap.lt_size (N p hp).1) ((List.mem_singleton.mp hI) ▸ Nat.lt_irrefl _)
  · intro i v ys m₁ news₁ h₁ tk₁ own C oC D E' hin hP hJ offN offO hCD hCL hfp hC₀ hoC F₁ N₁
    exact turn i v ys news₁ h₁ tk₁ own C oC D m₁ E' (by simpa using hP) hJ offN offO hCD hCL hfp hC₀ hoC F₁ N₁
  · intro D h tk ys news' F' N' off' hJ
    exact done D h tk ys news' F' N' (fun p hp => (off' p hp).2) (by simpa using hJ)
/-- the same over enumerate -/
theorem comp_enum {elt : PySem.Expr} {elts : List PySem.Expr} {k : Nat} {pos : Pos} {scope : Scope} {cl : List (PySem.Str × Addr)} {l : Addr} {vs : List Value} {nl : Nat} {news : Led} {Q : Value → Shared → Prop} (J : Nat → List Value → Led → Prop)
    (hh : A.handled = none) (hl : h₀.get? l = some (listOf vs.toArray nl)) (hz : vs.length ≤ sizeLine) (F : Fr h₀ L s.heap m) (N : News h₀ L s.heap news) (hj : J 0 [] news)
    (turn : ∀ i T x t ys news₁ h₁ tk₁ own C oC D m₁ (E' : Value → Shared → Prop), vs[i]? = some x → h₁.IsTuple T #[.int (i : Int) t, x] → J i ys news₁ → (∀ p ∈ news₁, p.1 ∉ [s.heap.objs.size + 1, s.heap.objs.size] ∧ p.1 ≠ C ∧ p.1 ≠ D) → (∀ p ∈ own, p.1 ∈ [s.heap.objs.size + 1, s.heap.objs.size, l] ∧ p.1 ≠ C ∧ p.1 ≠ D) → C ≠ D → C ≠ L → (∀ b ∈ [s.heap.objs.size + 1, s.heap.objs.size, l], b < D) → h₀.get? C = none → NsObj oC m₁ → Fr h₀ L h₁ m → News h₀ L h₁ (own ++ (C, oC) :: (D, lst ys) :: news₁) →
      wpAny (model prog w) A (assign (.Tuple elts k pos) (compEnvC scope cl C env) (.ref T)) (fun _ s₃ => wpAny (model prog w) A (eval elt (compEnvC scope cl C env))
        (TurnEnd h₀ L m { s with heap := h₁, toks := tk₁ } own C D [s.heap.objs.size + 1, s.heap.objs.size] ys (J (i + 1))) E' s₃) E' { s with heap := h₁, toks := tk₁ })
    (done : ∀ D h tk ys news', Fr h₀ L h m → News h₀ L h ((D, lst ys) :: news') → (∀ p ∈ news', p.1 ≠ D) → J vs.length ys news' → Q (.ref D) { s with heap := h, toks := tk }) :
    wpAny (model prog w) A (call (.type "enumerate") [.ref l]) (fun xv s₁ => wpAny (model prog w) A (pyIter xv) (fun it s₂ => CompAt prog w A h₀ L m env elt (.Tuple elts k pos) scope cl Q it s₂) E s₁) E s := by
  have hls : s.heap.IsList l vs.toArray := ⟨_, F.keep _ _ hl, rfl, _, rfl⟩
  have hlt : l < h₀.objs.size := Heap.lt_size hl
  have hls' : l < s.heap.objs.size := Heap.lt_size (F.keep _ _ hl)
  have hlL : l ≠ L := Nat.ne_of_lt (Nat.lt_of_lt_of_le hlt F.above)
  have hLs : L < s.heap.objs.size := F.ns.lt
  refine call_enumerate_list hls fun h' hE hI hsz hk => ?_
  refine wpAny_pyIter_enum hE ?_
  have WT := (WalksT.enumerate (prog := prog) (w := w) hh (s.heap.objs.size + 1) s.heap.objs.size l (Nat.succ_ne_self _) (ktu_ne 1 hls') (Nat.ne_of_lt hls') vs.toArray)
  have W := KTurns.ofWalksU (elts := elts) (k := k) (pos := pos) WT.toU
  refine ⟨_, _, _, _, _, _, _, news, J, rfl, W, fun s Q E st hQ => WT.self 0 s Q E st hQ, by simpa using hz, ⟨⟨.none, hE⟩, hI, hls.at fun o e => hk l o e⟩, fun b hb => ?_, F.keeps hk, N.grown hk, fun hm => ?_, fun b hb => ?_, fun p hp hI => ?_, hj, ?_, ?_⟩
  · show b < h'.objs.size
    rw [hsz]
    have hb' : b = s.heap.objs.size + 1 ∨ b = s.heap.objs.size ∨ b = l := by simpa using hb
    rcases hb' with rfl | rfl | rfl
    · exact Nat.lt_succ_self _
    · exact Nat.lt_succ_of_lt (Nat.lt_succ_self _)
    · exact Nat.lt_succ_of_lt (Nat.lt_succ_of_lt hls')
  · have hb' : L = s.heap.objs.size + 1 ∨ L = s.heap.objs.size ∨ L = l := by simpa using hm
    rcases hb' with e | e | e
    · exact ktu_ne 1 hLs e
    · exact Nat.ne_of_lt hLs e
    · exact hlL e.symm
  · have hb' : b = s.heap.objs.size + 1 ∨ b = s.heap.objs.size := by simpa using hb
    rcases hb' with rfl | rfl
    · exact ktu_new F (Nat.le_add_right _ _)
    · exact ktu_new F (Nat.le_refl _)
  · have hb' : p.1 = s.heap.objs.size + 1 ∨ p.1 = s.heap.objs.size := by simpa using hI
    have hlp := Heap.lt_size (N p hp).1
    rcases hb' with e | e
    · exact ktu_ne 1 hlp e
    · exact Nat.ne_of_lt hlp e
  · intro i v ys m₁ news₁ h₁ tk₁ own C oC D E' hin hP hJ offN offO hCD hCL hfp hC₀ hoC F₁ N₁
    obtain ⟨T, vals, rfl, ⟨t, x, hx, rfl⟩, hT⟩ := hP
    exact turn i T x t ys news₁ h₁ tk₁ own C oC D m₁ E' (by simpa using hx) hT hJ offN offO hCD hCL hfp hC₀ hoC F₁ N₁
  · intro D h tk ys news' F' N' off' hJ
    exact done D h tk ys news' F' N' (fun p hp => (off' p hp).2) (by simpa using hJ)
end
section
variable {prog : Program} {w : World} {A : Around} {E : Value → Shared → Prop} {s : Shared} {env : Env} {h₀ : Heap} {body : List Stmt} {Q : Flow → Shared → Prop}
/-- a for loop with a target of several names over a list that stands in the base -/
theorem loop_rows {elts : List PySem.Expr} {k : Nat} {pos : Pos} {l : Addr} {vs : List Value} {nl : Nat} {m₀ : PySem.Str → Option Value} {news : Led} (J : Nat → (PySem.Str → Option Value) → Led → Prop)
    (hh : A.handled = none) (hl : h₀.get? l = some (listOf vs.toArray nl)) (hr : ∀ (i : Nat) (v : Value), vs[i]? = some v → ∃ T : Addr, v = Value.ref T) (F : Fr h₀ env.locals s.heap m₀) (N : News h₀ env.locals s.heap news) (hj : J 0 m₀ news)
    (turn : ∀ i T m₁ nx I it h tk, vs[i]? = some (.ref T) → it.cls = .type "list_iterator" → J i m₁ nx → (∀ p ∈ nx, p.1 ≠ I) → Fr h₀ env.locals h m₁ → News h₀ env.locals h ((I, it) :: nx) →
      wpAny (model prog w) A (assign (.Tuple elts k pos) env (.ref T)) (fun _ s₃ => wpAny (model prog w) A (execs body env) (UnrPost h₀ env.locals { s with heap := h, toks := tk } I it (J (i + 1)) Q) E s₃) E { s with heap := h, toks := tk })
    (done : ∀ m₁ nx h tk, J vs.length m₁ nx → Fr h₀ env.locals h m₁ → News h₀ env.locals h nx → Q .next { s with heap := h, toks := tk }) :
    wpAny (model prog w) A (pyIter (.ref l)) (fun it s₂ => TurnsAt prog w A h₀ env (.Tuple elts k pos) body Q E it s₂) E s := by
  have hls : s.heap.IsList l vs.toArray := ⟨_, F.keep _ _ hl, rfl, _, rfl⟩
  have hlt : l < h₀.objs.size := Heap.lt_size hl
  have hls' : l < s.heap.objs.size := Heap.lt_size (F.keep _ _ hl)
  have hlL : l ≠ env.locals := Nat.ne_of_lt (Nat.lt_of_lt_of_le hlt F.above)
  refine wpAny_pyIter_list hls ?_
  have up : ∀ b o, s.heap.get? b = some o → (s.heap.push { cls := .type "list_iterator", data := .fields #[.ref l, .int 0 0] }).get? b = some o := fun b o e => Heap.get?_push_of_some _ e
  have W := kturns_rows (prog := prog) (w := w) (elts := elts) (k := k) (pos := pos) hh s.heap.objs.size l (Nat.ne_of_lt hls') vs.toArray (fun i v e => hr i v (by simpa using e))
  refine ⟨_, _, _, _, _, _, _, m₀, news, J, rfl, W, fun hm => ?_, fun b hb => ?_, fun p hp hI => ?_, ⟨⟨_, Heap.get?_push_size _ rfl, rfl, rfl⟩, hls.push _⟩, F.keeps up, N.grown up, hj, ?_, ?_⟩
  · rcases List.mem_cons.mp hm with e | hm
    · exact absurd F.ns.lt (e ▸ Nat.lt_irrefl _)
    · exact hlL (List.mem_singleton.mp hm).symm
  · rw [List.mem_singleton.mp hb]; exact next_is_new F
  · exact absurd (Heap.lt_size (N p hp).1) ((List.mem_singleton.mp hI) ▸ Nat.lt_irrefl _)
  · intro i v m₁ news₁ hh' tk' own hin hP hJ hoff hown hat hmem hst F₁ N₁
    obtain ⟨⟨oi, hoi, hci⟩, _⟩ := hst
    have hI : (s.heap.objs.size, oi) ∈ own := hmem _ (.head _) (next_is_new F) oi hoi
    have N₂ : News h₀ env.locals hh' ((s.heap.objs.size, oi) :: news₁) := fun p hp => by
      rcases List.mem_cons.mp hp with rfl | hp
      · exact N₁ _ (List.mem_append_left _ hI)
      · exact N₁ _ (List.mem_append_right _ hp)
    have hv : vs[i]? = some v := by simpa using hP
    obtain ⟨T, rfl⟩ := hr i v hv
    refine wpAny_mono (turn i T m₁ news₁ s.heap.objs.size oi hh' tk' hv hci.1 hJ (fun p hp e => hoff p hp (List.mem_singleton.mpr e)) F₁ N₂) (fun _ s₃ h₃ => wpAny_mono h₃ (fun f s₂ p => ?_) fun _ _ e => e) fun _ _ e => e
    have fin : UnrEnd h₀ env.locals { s with heap := hh', toks := tk' } s.heap.objs.size oi (J (i + 1)) s₂ → LoopStepU h₀ env.locals [s.heap.objs.size] own (J (i + 1)) { s with heap := hh', toks := tk' } .next s₂ := by
      rintro ⟨h', tk, m', news', e, F', N', ho, r⟩
      refine ⟨rfl, h', tk, m', news', e, F', fun p hp => ?_, fun p hp hI => ho p hp (List.mem_singleton.mp hI), r⟩
      rcases List.mem_append.mp hp with hp | hp
      · rcases List.mem_cons.mp (hown p hp) with h1 | h1
        · have h2 : hh'.get? p.1 = some p.2 := hat p hp
          have h3 : p = (s.heap.objs.size, oi) := by
            rw [h1, hoi] at h2
            exact Prod.ext h1 (Option.some.inj h2).symm
          rw [h3]; exact N' _ (List.mem_cons_self ..)
        · have h4 : p.1 = l := List.mem_singleton.mp h1
          have h5 := (N₁ p (List.mem_append_left _ hp)).2.2
          rw [h4, hl] at h5; cases h5
      · exact N' _ (List.mem_cons_of_mem _ hp)
    cases f with
    | ret v => exact .ret p
    | brk => exact .brk p
    | next => exact .next (fin p)
    | cont => exact .cont (fin p)
  · rintro h' tk m' news' F' N' _ hJ
    exact done m' news' h' tk (by simpa using hJ) F' N'
end
end
section
noncomputable def Key.num : Key → Nat
  | .size => 0 | .nsize => 1 | .over => 2 | .nover => 3 | .done => 4 | .ndone => 5 | .inv => 6 | .ninv => 7 | .fault => 8 | .nfault => 9
noncomputable def keyEq (a b : Key) : Bool := a.num == b.num
theorem key_eq (a b : Key) : (a.str.cps.toList == b.str.cps.toList) = keyEq a b := by
  cases a <;> cases b <;> decide
/-- the law's own words: rows (who may take, how many CONTINUE) -/
inductive Due where
  | ok (place : Nat) (bs : List (Key × Nat))
  | odd (place : Nat)
noncomputable def takes (able : List Key) (k : Key) : Bool := able.any fun a => keyEq a k
noncomputable def dueStep (ps : List (List Key × Nat)) (o : Due) (k : Key) : Due := match o with
  | .odd p => .odd p
  | .ok p bs => match ps[p]? with
    | none => .ok p bs
    | some (able, c) => if takes able k = true then (if c = 0 then .odd p else .ok (p + 1) (bs ++ [(k, c)])) else .ok p bs
theorem due_odd (ps : List (List Key × Nat)) (p : Nat) : ∀ ks : List Key, ks.foldl (dueStep ps) (.odd p) = .odd p
  | [] => rfl
  | _ :: r => due_odd ps p r
structure PhAre (cold : Led) (vs : List Value) (ps : List (List Key × Nat)) : Prop where
  len : vs.length = ps.length
  small : vs.length ≤ 100
  get : ∀ (i : Nat) (v : Value), vs[i]? = some v → ∃ (T A : Addr) (avs : List Value) (n1 n2 : Nat) (t : Tok) (able : List Key) (c : Nat), ps[i]? = some (able, c) ∧ v = .ref T ∧ (T, tupObj [.ref A, .int (c : Int) t] n1) ∈ cold ∧ (A, listOf avs.toArray n2) ∈ cold ∧ KeysAre avs able ∧ c ≤ 3
section
variable {prog : Program} {w : World} {A : Around} {E : Value → Shared → Prop} {s : Shared} {Q : Value → Shared → Prop} {h₀ : Heap} {L l : Addr} {m : PySem.Str → Option Value} {cold : Led} {avs : List Value} {able : List Key} {k : Key} {n : Nat} {t : Tok}
noncomputable def eqK (k : Key) (v : Value) : Bool := match v with
  | .str x _ => x.cps.toList == k.str.cps.toList
  | _ => false
theorem any_keys (hK : KeysAre avs able) : avs.any (eqK k) = takes able k := by
  have : avs.map (eqK k) = able.map fun a => keyEq a k := by
    refine List.ext_getElem? fun i => ?_
    rw [List.getElem?_map, List.getElem?_map]
    cases e : avs[i]? with
    | none =>
      have : able[i]? = none := by rw [List.getElem?_eq_none_iff] at e ⊢; rw [← hK.len]; exact e
      rw [this]; rfl
    | some v =>
      obtain ⟨a, u, ha, rfl⟩ := hK.get i v e
      rw [ha]
      exact congrArg some (key_eq a k)
  have h2 : (avs.map (eqK k)).any id = (able.map fun a => keyEq a k).any id := by rw [this]
  rw [List.any_map, List.any_map] at h2
  exact h2
theorem in_keys (F : Fr h₀ L s.heap m) (hC : ColdAt h₀ cold) (hm : (l, listOf avs.toArray n) ∈ cold) (hK : KeysAre avs able) (h : Q (.bool (takes able k)) s) : wpAny (model prog w) A (compareOp .In (.str k.str t) (.ref l)) Q E s := by
  refine PySem.SeqInW.in_listW (items := avs.toArray) (eqK k) (fun y hy => ?_) (cold_list F hC hm) (by simpa [any_keys hK] using h)
  obtain ⟨i, hi⟩ := List.getElem?_of_mem (by simpa using hy : y ∈ avs)
  obtain ⟨a, u, ha, rfl⟩ := hK.get i y hi
  exact PySem.SeqRoads2.EqGives.str a.str k.str u t
end
section
variable {prog : Program} {w : World} {A : Around} {E : Value → Shared → Prop} {s : Shared} {Q : Value → Shared → Prop} {h₀ : Heap} {L l : Addr} {m : PySem.Str → Option Value} {cold : Led} {vs : List Value} {n : Nat}
theorem cold_tup {value slice : PySem.Expr} {k : Int} {u : Tok} {x : Value} (j : Nat) (F : Fr h₀ L s.heap m) (hC : ColdAt h₀ cold) (hm : (l, tupObj vs n) ∈ cold) (hk : k = (j : Int)) (hj : j < 1000) (hx : vs[j]? = some x) (h : Q x s)
    (hs : subscripted slice false (.ref l) (.int k u) = operate [.ref l, .int k u] (getItem (.ref l) (.int k u)) := by with_unfolding_all rfl) (hg : ∀ r, letTemporaryGo value (.ref l) r = pure () := by intro _; with_unfolding_all rfl) :
    wpAny (model prog w) A (subscriptTail value slice (.ref l) (.int k u)) Q E s := by
  have hlt : j < vs.length := (List.getElem?_eq_some_iff.mp hx).1
  refine item_tupleL (l := vs) ⟨_, F.keep _ _ (hC _ hm), rfl, _, rfl⟩ (by omega) (by omega) (j := j) (seqIndex_of (k := k) (by omega) (by omega) |>.trans (by rw [hk]; rfl)) hx h hs hg
end
section
variable {prog : Program} {w : World} {A : Around} {E : Value → Shared → Prop} {s : Shared} {Q : Value → Shared → Prop} {h₀ : Heap} {L l : Addr} {m : PySem.Str → Option Value} {news : Led} {v : Value} {n c : Nat} {u : Tok}
theorem tup_mulN (hc : c ≠ 0) (h3 : c ≤ 3) (F : Fr h₀ L s.heap m) (N : News h₀ L s.heap news) (hm : (l, tupObj [v] n) ∈ news)
    (h : ∀ D k h', Fr h₀ L h' m → News h₀ L h' ((D, tupObj (List.replicate c v) k) :: news) → Q (.ref D) { s with heap := h' }) : wpAny (model prog w) A (binaryOp .Mult (.ref l) (.int (c : Int) u)) Q E s := by
  obtain rfl | rfl | rfl : c = 1 ∨ c = 2 ∨ c = 3 := by omega
  · exact tup_mul1 rfl N hm (h l n s.heap F (fun q hq => (List.mem_cons.mp hq).elim (fun e => e ▸ N _ hm) (N q)))
  · exact tup_mul2 rfl F N hm fun D h' F' N' _ => h D _ h' F' N'
  · exact tup_mul3 rfl F N hm fun D h' F' N' _ => h D _ h' F' N'
end
section
variable {prog : Program} {w : World} {A : Around} {E : Value → Shared → Prop} {s : Shared} {Q : Value → Shared → Prop} {h₀ : Heap} {L l : Addr} {m : PySem.Str → Option Value} {cold : Led} {vs : List Value} {n : Nat}
theorem m_item_at {value slice : PySem.Expr} {k : Int} {u : Tok} {v : Value} (F : Fr h₀ L s.heap m) (hC : ColdAt h₀ cold) (hm : (l, listOf vs.toArray n) ∈ cold) (h0 : 0 ≤ k) (hz : vs.length ≤ 16384)
    (hv : vs[k.toNat]? = some v) (h : Q v s)
    (hs : subscripted slice false (.ref l) (.int k u) = operate [.ref l, .int k u] (getItem (.ref l) (.int k u)) := by with_unfolding_all rfl) :
    wpAny (model prog w) A (subscriptTail value slice (.ref l) (.int k u)) Q E s :=
  have hl := (List.getElem?_eq_some_iff.mp hv).1
  item_litK (cold_list F hC hm) h0 (by omega) hv h hs
end
noncomputable def DueJ (ps : List (List Key × Nat)) (ks : List Key) (Pl Kt Bl : Addr) (i : Nat) (mm : PySem.Str → Option Value) (nx : Led) : Prop :=
  ∃ (u : PySem.Str → Option Value) (pz : Nat) (tp' : Tok) (items : List Value) (nb : Nat) (extras : Led) (bs : List (Key × Nat)),
      mm = (fun z => if ([S "key"] : List PySem.Str).contains z then u z else (if z = S "branches" then some (Value.ref Bl) else if z = S "place" then some (Value.int (pz : Int) tp') else List.lookup z [(S "phrases", Value.ref Pl), (S "keys", Value.ref Kt)].reverse)) ∧
      (Bl, listOf items.toArray nb) ∈ nx ∧ (∀ q ∈ extras, q ∈ nx) ∧ AllTup extras ∧ pz ≤ ps.length ∧ (ks.take i).foldl (dueStep ps) (.ok 0 []) = .ok pz bs ∧ BrAll extras items bs ∧ bs.length ≤ i
theorem dueJ_start {ps : List (List Key × Nat)} {ks : List Key} {Pl Kt Bl : Addr} {tk : Tok} {nb : Nat} {nx : Led} (h : (Bl, listOf ([] : List Value).toArray nb) ∈ nx) : DueJ ps ks Pl Kt Bl 0 (fun z => if z = S "branches" then some (Value.ref Bl) else if z = S "place" then some (Value.int 0 tk) else List.lookup z [(S "phrases", Value.ref Pl), (S "keys", Value.ref Kt)].reverse) nx := by
  refine ⟨fun z => if z = S "branches" then some (Value.ref Bl) else if z = S "place" then some (Value.int 0 tk) else List.lookup z [(S "phrases", Value.ref Pl), (S "keys", Value.ref Kt)].reverse, 0, tk, [], nb, [], [], ?_, h, by simp, (fun q hq => by cases hq), Nat.zero_le _, rfl, BrAll.nil, Nat.le_refl _⟩
  funext z
  exact (ite_self _).symm
theorem due_take {ps : List (List Key × Nat)} {ks : List Key} {i : Nat} {key : Key} {o : Due} (hkey : ks[i]? = some key) : (ks.take (i + 1)).foldl (dueStep ps) o = dueStep ps ((ks.take i).foldl (dueStep ps) o) key := by
  rw [List.take_add_one, hkey, List.foldl_append]
  rfl
theorem due_now_odd {ps : List (List Key × Nat)} {ks : List Key} {i pz c : Nat} {key : Key} {able : List Key} {bs : List (Key × Nat)} (hkey : ks[i]? = some key) (hf : (ks.take i).foldl (dueStep ps) (.ok 0 []) = .ok pz bs) (hp : ps[pz]? = some (able, c)) (ht : takes able key = true) (hc : c = 0) :
    ks.foldl (dueStep ps) (.ok 0 []) = .odd pz := by
  have h1 := due_take (ps := ps) (o := .ok 0 []) hkey
  rw [hf] at h1
  have h2 : dueStep ps (.ok pz bs) key = .odd pz := by
    unfold dueStep; dsimp only; rw [hp]; dsimp only; rw [if_pos ht, if_pos hc]
  rw [h2] at h1
  rw [← List.take_append_drop (i + 1) ks, List.foldl_append, h1, due_odd]
theorem dst_ne {z : PySem.Str} (hz : ([S "key"] : List PySem.Str).contains z = false) : (z = S "key") = False := by
  refine eq_false fun e => ?_
  subst e; revert hz; decide
theorem due_none {ps : List (List Key × Nat)} {pz : Nat} {bs : List (Key × Nat)} {key : Key} (h : ps.length ≤ pz) : dueStep ps (.ok pz bs) key = .ok pz bs := by
  unfold dueStep; dsimp only; rw [List.getElem?_eq_none h]
theorem due_no {ps : List (List Key × Nat)} {pz c : Nat} {able : List Key} {bs : List (Key × Nat)} {key : Key} (hp : ps[pz]? = some (able, c)) (h : takes able key = false) : dueStep ps (.ok pz bs) key = .ok pz bs := by
  unfold dueStep; dsimp only; rw [hp]; dsimp only; rw [h, if_neg Bool.false_ne_true]
section
variable {ps : List (List Key × Nat)} {ks : List Key} {Pl Kt Bl T b q q2 : Addr} {tp' tq t tkey : Tok} {i pz nb k1 k2 k3 c : Nat} {ci : Int} {tc : Tok} {key : Key} {able : List Key} {mm : PySem.Str → Option Value} {nx extras : Led} {items : List Value} {bs : List (Key × Nat)}
theorem dueJ_stay (hkey : ks[i]? = some key) (hf : (ks.take i).foldl (dueStep ps) (.ok 0 []) = .ok pz bs) (hs : dueStep ps (.ok pz bs) key = .ok pz bs) (hpz : pz ≤ ps.length) (hb : BrAll extras items bs) (hlen : bs.length ≤ i) (aX : AllTup extras)
    (hm : ∀ z, ([S "key"] : List PySem.Str).contains z = false → mm z = (if z = S "branches" then some (Value.ref Bl) else if z = S "place" then some (Value.int (pz : Int) tp') else List.lookup z [(S "phrases", Value.ref Pl), (S "keys", Value.ref Kt)].reverse))
    (mB : (Bl, listOf items.toArray nb) ∈ nx) (mX : ∀ x ∈ extras, x ∈ nx) : DueJ ps ks Pl Kt Bl (i + 1) mm nx := by
  refine ⟨mm, pz, tp', items, nb, extras, bs, ?_, mB, mX, aX, hpz, ?_, hb, by omega⟩
  · funext z
    cases e : ([S "key"] : List PySem.Str).contains z with
    | true => rfl
    | false => exact hm z e
  · rw [due_take hkey, hf, hs]
theorem dueJ_step (hkey : ks[i]? = some key) (hf : (ks.take i).foldl (dueStep ps) (.ok 0 []) = .ok pz bs) (hp : ps[pz]? = some (able, c)) (ht : takes able key = true) (hc : (c : Int) ≠ 0) (hb : BrAll extras items bs) (hlen : bs.length ≤ i) (aX : AllTup extras)
    (hm : ∀ z, ([S "key"] : List PySem.Str).contains z = false → mm z = (if z = S "place" then some (Value.int ((pz : Int) + 1) tp') else if z = S "branches" then some (Value.ref Bl) else if z = S "place" then some (Value.int (pz : Int) tq) else List.lookup z [(S "phrases", Value.ref Pl), (S "keys", Value.ref Kt)].reverse))
    (mB : (Bl, listOf (items ++ [Value.ref T]).toArray nb) ∈ nx) (mT : (T, tupObj [.str key.str tkey, .ref b] k1) ∈ nx) (mb : (b, tupObj (List.replicate c (.ref q)) k2) ∈ nx) (mq : (q, tupObj [.str (S "continue") t] k3) ∈ nx)
    (mX : ∀ x ∈ extras, x ∈ nx) : DueJ ps ks Pl Kt Bl (i + 1) mm nx := by
  refine ⟨mm, pz + 1, tp', items ++ [Value.ref T], nb, (T, tupObj [.str key.str tkey, .ref b] k1) :: (b, tupObj (List.replicate c (.ref q)) k2) :: (q, tupObj [.str (S "continue") t] k3) :: extras, bs ++ [(key, c)], ?_, mB, sub_cons mT (sub_cons mb (sub_cons mq mX)), .cons rfl (.cons rfl (.cons rfl aX)), (List.getElem?_eq_some_iff.mp hp).1, ?_, ?_, ?_⟩
  · funext z
    cases e : ([S "key"] : List PySem.Str).contains z with
    | true => rfl
    | false =>
      refine (hm z e).trans ?_
      by_cases hz : z = S "place"
      · subst hz; rfl
      · rw [if_neg hz, if_neg hz, if_neg Bool.false_ne_true]; rw [if_neg hz]
  · rw [due_take hkey, hf]
    unfold dueStep; dsimp only; rw [hp]; dsimp only; rw [if_pos ht, if_neg (by omega)]
  · exact (hb.mono fun x hx => .tail _ (.tail _ (.tail _ hx))).snoc ⟨T, b, q, k1, k2, k3, tkey, t, rfl, .head _, .tail _ (.head _), .tail _ (.tail _ (.head _))⟩
  · rw [List.length_append, List.length_singleton]; omega
end
section
variable {w : World} {A₀ : Around} {Q E : Value → Shared → Prop} {s : Shared} {h₀ base : Heap} {L : Addr} {m mg mb : PySem.Str → Option Value} {hot news cold cold' all rest : Led} {p : Program} {loose : List PySem.Str} {mean : ExcName → Option Value}
  {dp un : Nat} {gd : Option (List Code)} {cn : PySem.Str} {cs : Scope} {a : Addr} {ccd : Value} {cl : List (PySem.Str × Addr)} {outer : List Env}
  {Pl Kt : Addr} {nk np : Nat} {pvs kvs : List Value} {ks : List Key} {ps : List (List Key × Nat)}
theorem due_ct (B : Below A₀ base outer h₀) (F : Fr h₀ L s.heap m) (X : (Mine.heap w.params).In h₀) (N : News h₀ L s.heap news) (T : Top p loose mean mg mb h₀) (hk : cs.kind = .function)
    (hC : ColdAt s.heap cold) (hP : (Pl, listOf pvs.toArray np) ∈ cold) (hPs : PhAre cold pvs ps) (hK : (Kt, tupObj kvs nk) ∈ cold) (hKs : KeysAre kvs ks) (hd : dp + 15 < recursionLimit) (hu : un + 120 < cLine)
    (ret : ∀ D Bl place odd tpl items n nb extras h' tk', Fr h₀ L h' m → News h₀ L h' ((D, tupObj [.ref Bl, .int (place : Nat) tpl, .bool odd] n) :: (Bl, listOf items.toArray nb) :: (extras ++ news)) → AllTup extras →
      (match ks.foldl (dueStep ps) (.ok 0 []) with | .ok pl bs => place = pl ∧ odd = false ∧ BrAll extras items bs ∧ bs.length ≤ ks.length | .odd pl => place = pl ∧ odd = true) → Q (.ref D) { s with heap := h', toks := tk' }) :
    wpAny (model PySem.Challenge.rw_pb0257_01.row.prog w) (ktrTop dp un gd cn cs L a ccd cl outer) (call (.ref 343) [.ref Pl, .ref Kt]) Q E s := by
  revert X
  k_fill
  w_on
  intro X
  refine' ct_enter (hot := []) (news := news) (cold := cold)
    (Post := fun tl r => ∃ D Bl place odd tpl items n nb extras, r = .ref D ∧ tl = (D, tupObj [.ref Bl, .int (place : Nat) tpl, .bool odd] n) :: (Bl, listOf items.toArray nb) :: extras ∧ AllTup extras ∧ (match ks.foldl (dueStep ps) (.ok 0 []) with | .ok pl bs => place = pl ∧ odd = false ∧ BrAll extras items bs ∧ bs.length ≤ ks.length | .odd pl => place = pl ∧ odd = true))
    [(S "phrases", .ref Pl), (S "keys", .ref Kt)] B F X N (fun _ _ _ hp => nomatch hp) hC (fun _ _ _ hp => nomatch hp) T hk ?ret ?ho ?hcd ?hroom ?hbind ?hloc ?c1 ?c2 ?c3 ?c4 ?_
  case ret =>
    rintro r tl h' tk' F' N' O' ⟨D, Bl, place, odd, tpl, items, n, nb, extras, rfl, rfl, e2, e3⟩
    exact ret D Bl place odd tpl items n nb extras h' tk' F' N' e2 e3
  case ho => k_is
  case hcd => k_is
  case hroom => k_room
  case hbind => exact BindsTo.of_eq rfl
  case hloc => exact locs rfl
  case c1 => exact rfl
  case c2 => exact rfl
  case c3 => exact rfl
  case c4 => decide
  clear ret N hC
  intro g' L' h' FG' F' N' hC' B' X' T'
  try dsimp only
  k_fold
  repeat' (first | (k_unfold; (try dsimp only)) | (k_end; first | kc_close | wrow_close) | ((with_reducible show wpAny _ _ (exec (Stmt.For _ _ _ _ _) _) _ _ _); k_here; (rename Fr _ _ _ _ => lF'); (with_unfolding_all refine' For_invVF lF' (by exact rfl) (by exact rfl) ?_); k_whole) | ((fail_if_success (with_reducible show wpAny _ _ (pyIter (Value.ref _)) _ _ _)); walk1) | ((fail_if_success (with_reducible show wpAny _ _ (pyIter (Value.ref _)) _ _ _)); dsimp only; (fail_if_success (with_reducible show wpAny _ _ (pyIter (Value.ref _)) _ _ _)); walk1) | ((fail_if_success (with_reducible show wpAny _ _ (pyIter (Value.ref _)) _ _ _)); leave1; walk_say "STEP leave1"; try dsimp only) | fail "no step")
  rename_i Bl _ _ D1 _ _ _ _ _ kN
  rename Fr g' L' _ _ => kF
  refine loop_tup (l := Kt) (vs := kvs) (n := nk) (DueJ ps ks Pl Kt Bl) (by exact rfl) (hC' _ hK) kF kN ?start ?turn ?done
  case start =>
    exact dueJ_start (by k_mem)
  case turn =>
    clear kF kN
    rintro i v m₁ nx I it h tk hv hit ⟨u, pz, tp', items, nb, extras, bs, rfl, mB, mX, aX, hpz, hf, hb, hlen⟩ hoff F1 N1
    obtain ⟨key, tkey, hkey, rfl⟩ := hKs.get i v hv
    have N2 : News g' L' h ((I, it) :: (Bl, listOf items.toArray nb) :: extras) := fun q hq => N1 q (by
      rcases List.mem_cons.mp hq with rfl | hq
      · exact List.mem_cons_self
      rcases List.mem_cons.mp hq with rfl | hq
      · exact List.mem_cons_of_mem _ mB
      · exact List.mem_cons_of_mem _ (mX q hq))
    clear N1 mB mX hoff
    have hil : items.length ≤ 16384 := by
      have h1 := hb.len
      have h2 := hKs.small
      have h3 := (List.getElem?_eq_some_iff.mp hv).1
      omega
    have hPl := hPs.len
    by_cases hlt : pz < pvs.length
    · obtain ⟨v0, hv0⟩ : ∃ v0, pvs[((pz : Nat) : Int).toNat]? = some v0 := ⟨_, List.getElem?_eq_getElem (by simpa using hlt)⟩
      obtain ⟨T0, A0, avs, n1, n2, t0, able, c, hp0, rfl, hm1, hm2, hk0, hc3⟩ := hPs.get _ _ hv0
      rw [Int.toNat_natCast] at hp0
      try dsimp only
      repeat' (first | (k_unfold; (try dsimp only)) | (k_end; first | kc_close | wrow_close) | ((with_reducible show wpAny _ _ (compareOp CmpOp.In (Value.str (Key.str _) _) (Value.ref _)) _ _ _); k_dflt (refine' in_keys (by k_asm) (by k_asm) (by assumption) (by assumption) ?_)) | ((with_reducible show wpAny _ _ (call (Value.builtin _) [Value.ref _]) _ _ _); (with_reducible rename PhAre _ _ _ => hTk); k_dflt (with_reducible refine' m_len (by k_asm) (by k_asm) (by with_reducible assumption) (Nat.le_trans (PhAre.small hTk) (by decide)) ?_)) | ((with_reducible show wpAny _ _ (subscriptTail _ _ (Value.ref _) (Value.int _ _)) _ _ _); (with_reducible rename PhAre _ _ _ => hTk); (with_unfolding_all refine' m_item_at (by k_asm) (by k_asm) (by with_reducible assumption) (by omega) (Nat.le_trans (PhAre.small hTk) (by decide)) (by with_reducible assumption) ?_ (by with_unfolding_all rfl))) | ((with_reducible show wpAny _ _ (subscriptTail _ _ (Value.ref _) (Value.int _ _)) _ _ _); k_dflt (first | refine' cold_tup 0 (by k_asm) (by k_asm) (by with_reducible assumption) (by decide) (by decide) rfl ?_ | refine' cold_tup 1 (by k_asm) (by k_asm) (by with_reducible assumption) (by decide) (by decide) rfl ?_)) | ((with_reducible show wpAny _ _ (binaryOp Operator.Mult (Value.ref _) (Value.int _ _)) _ _ _); k_dflt (refine' tup_mulN (by first | assumption | omega) (by assumption) (by k_asm) (by k_asm) (by k_mem) ?_; k_whole; intro _ _ _ _ _)) | ((with_reducible show wpAny _ _ (call (Value.builtin _) _) _ _ _); k_dflt ((show wpAny _ _ (call (Value.builtin "list.append") [Value.ref _, _]) _ _ _); refine' m_append (by k_asm) (by k_asm) (by (repeat (first | with_reducible exact Pick.here | apply Pick.there)); done) (by (repeat' (first | exact NoCls.nil | exact AllTup.no (by assumption) (cls_ne rfl) | exact AllTup.no (by assumption) (cls_to (by assumption) (cls_ne rfl)) | refine NoCls.cons (by first | exact cls_ne rfl | exact ref_ne | exact cls_ne' (by assumption) rfl | exact cls_to (by assumption) (cls_ne rfl)) ?_)); done) (by assumption) ?_); intro _ _ _) | ((with_reducible show UnrEnd _ _ _ _ _ _ _); k_dflt (refine' unrEnd_pick (by k_asm) (by k_asm) (by (repeat (first | with_reducible exact Pick.here | apply Pick.there)); done) (by (repeat' (first | exact NoCls.nil | exact AllTup.no (by assumption) (cls_ne rfl) | exact AllTup.no (by assumption) (cls_to (by assumption) (cls_ne rfl)) | refine NoCls.cons (by first | exact cls_ne rfl | exact ref_ne | exact cls_ne' (by assumption) rfl | exact cls_to (by assumption) (cls_ne rfl)) ?_)); done) ?_)) | walk1 | (dsimp only; first | ((with_reducible show wpAny _ _ (compareOp CmpOp.In (Value.str (Key.str _) _) (Value.ref _)) _ _ _); k_dflt (refine' in_keys (by k_asm) (by k_asm) (by assumption) (by assumption) ?_)) | ((with_reducible show wpAny _ _ (call (Value.builtin _) [Value.ref _]) _ _ _); (with_reducible rename PhAre _ _ _ => hTk); k_dflt (with_reducible refine' m_len (by k_asm) (by k_asm) (by with_reducible assumption) (Nat.le_trans (PhAre.small hTk) (by decide)) ?_)) | ((with_reducible show wpAny _ _ (subscriptTail _ _ (Value.ref _) (Value.int _ _)) _ _ _); (with_reducible rename PhAre _ _ _ => hTk); (with_unfolding_all refine' m_item_at (by k_asm) (by k_asm) (by with_reducible assumption) (by omega) (Nat.le_trans (PhAre.small hTk) (by decide)) (by with_reducible assumption) ?_ (by with_unfolding_all rfl))) | ((with_reducible show wpAny _ _ (subscriptTail _ _ (Value.ref _) (Value.int _ _)) _ _ _); k_dflt (first | refine' cold_tup 0 (by k_asm) (by k_asm) (by with_reducible assumption) (by decide) (by decide) rfl ?_ | refine' cold_tup 1 (by k_asm) (by k_asm) (by with_reducible assumption) (by decide) (by decide) rfl ?_)) | ((with_reducible show wpAny _ _ (binaryOp Operator.Mult (Value.ref _) (Value.int _ _)) _ _ _); k_dflt (refine' tup_mulN (by first | assumption | omega) (by assumption) (by k_asm) (by k_asm) (by k_mem) ?_; k_whole; intro _ _ _ _ _)) | ((with_reducible show wpAny _ _ (call (Value.builtin _) _) _ _ _); k_dflt ((show wpAny _ _ (call (Value.builtin "list.append") [Value.ref _, _]) _ _ _); refine' m_append (by k_asm) (by k_asm) (by (repeat (first | with_reducible exact Pick.here | apply Pick.there)); done) (by (repeat' (first | exact NoCls.nil | exact AllTup.no (by assumption) (cls_ne rfl) | exact AllTup.no (by assumption) (cls_to (by assumption) (cls_ne rfl)) | refine NoCls.cons (by first | exact cls_ne rfl | exact ref_ne | exact cls_ne' (by assumption) rfl | exact cls_to (by assumption) (cls_ne rfl)) ?_)); done) (by assumption) ?_); intro _ _ _) | ((with_reducible show UnrEnd _ _ _ _ _ _ _); k_dflt (refine' unrEnd_pick (by k_asm) (by k_asm) (by (repeat (first | with_reducible exact Pick.here | apply Pick.there)); done) (by (repeat' (first | exact NoCls.nil | exact AllTup.no (by assumption) (cls_ne rfl) | exact AllTup.no (by assumption) (cls_to (by assumption) (cls_ne rfl)) | refine NoCls.cons (by first | exact cls_ne rfl | exact ref_ne | exact cls_ne' (by assumption) rfl | exact cls_to (by assumption) (cls_ne rfl)) ?_)); done) ?_)) | walk1) | (leave1; walk_say "STEP leave1"; try dsimp only) | fail "no step")
      all_goals first
        | exact dueJ_step hkey hf hp0 (by assumption) (by assumption) hb hlen aX (fun z hz => by simp only [dst_ne hz, hz, if_false, Bool.false_eq_true]; try rfl) (by k_mem) (by k_mem) (by k_mem) (by k_mem) (fun x hx => by k_mem)
        | exact dueJ_stay hkey hf (due_no hp0 (by assumption)) hpz hb hlen aX (fun z hz => by simp only [dst_ne hz, hz, if_false, Bool.false_eq_true]; try rfl) (by k_mem) (fun x hx => by k_mem)
        | (refine EndR.sub ((_, tupObj [.ref Bl, .int (pz : Nat) tp', .bool true] 0) :: (Bl, listOf items.toArray nb) :: extras) (by assumption) (by assumption) (sub_cons (by k_mem) (sub_cons (by k_mem) (fun x hx => by k_mem))) ?_
           refine ⟨_, _, pz, true, tp', items, 0, nb, extras, rfl, rfl, aX, ?_⟩
           have hd0 := due_now_odd hkey hf hp0 (by assumption) (by omega)
           rw [hd0]
           exact ⟨rfl, rfl⟩)
    · try dsimp only
      repeat' (first | (k_unfold; (try dsimp only)) | (k_end; first | kc_close | wrow_close) | ((with_reducible show wpAny _ _ (compareOp CmpOp.In (Value.str (Key.str _) _) (Value.ref _)) _ _ _); k_dflt (refine' in_keys (by k_asm) (by k_asm) (by assumption) (by assumption) ?_)) | ((with_reducible show wpAny _ _ (call (Value.builtin _) [Value.ref _]) _ _ _); (with_reducible rename PhAre _ _ _ => hTk); k_dflt (with_reducible refine' m_len (by k_asm) (by k_asm) (by with_reducible assumption) (Nat.le_trans (PhAre.small hTk) (by decide)) ?_)) | ((with_reducible show wpAny _ _ (subscriptTail _ _ (Value.ref _) (Value.int _ _)) _ _ _); (with_reducible rename PhAre _ _ _ => hTk); (with_unfolding_all refine' m_item_at (by k_asm) (by k_asm) (by with_reducible assumption) (by omega) (Nat.le_trans (PhAre.small hTk) (by decide)) (by with_reducible assumption) ?_ (by with_unfolding_all rfl))) | ((with_reducible show wpAny _ _ (subscriptTail _ _ (Value.ref _) (Value.int _ _)) _ _ _); k_dflt (first | refine' cold_tup 0 (by k_asm) (by k_asm) (by with_reducible assumption) (by decide) (by decide) rfl ?_ | refine' cold_tup 1 (by k_asm) (by k_asm) (by with_reducible assumption) (by decide) (by decide) rfl ?_)) | ((with_reducible show wpAny _ _ (binaryOp Operator.Mult (Value.ref _) (Value.int _ _)) _ _ _); k_dflt (refine' tup_mulN (by first | assumption | omega) (by assumption) (by k_asm) (by k_asm) (by k_mem) ?_; k_whole; intro _ _ _ _ _)) | ((with_reducible show wpAny _ _ (call (Value.builtin _) _) _ _ _); k_dflt ((show wpAny _ _ (call (Value.builtin "list.append") [Value.ref _, _]) _ _ _); refine' m_append (by k_asm) (by k_asm) (by (repeat (first | with_reducible exact Pick.here | apply Pick.there)); done) (by (repeat' (first | exact NoCls.nil | exact AllTup.no (by assumption) (cls_ne rfl) | exact AllTup.no (by assumption) (cls_to (by assumption) (cls_ne rfl)) | refine NoCls.cons (by first | exact cls_ne rfl | exact ref_ne | exact cls_ne' (by assumption) rfl | exact cls_to (by assumption) (cls_ne rfl)) ?_)); done) (by assumption) ?_); intro _ _ _) | ((with_reducible show UnrEnd _ _ _ _ _ _ _); k_dflt (refine' unrEnd_pick (by k_asm) (by k_asm) (by (repeat (first | with_reducible exact Pick.here | apply Pick.there)); done) (by (repeat' (first | exact NoCls.nil | exact AllTup.no (by assumption) (cls_ne rfl) | exact AllTup.no (by assumption) (cls_to (by assumption) (cls_ne rfl)) | refine NoCls.cons (by first | exact cls_ne rfl | exact ref_ne | exact cls_ne' (by assumption) rfl | exact cls_to (by assumption) (cls_ne rfl)) ?_)); done) ?_)) | walk1 | (dsimp only; first | ((with_reducible show wpAny _ _ (compareOp CmpOp.In (Value.str (Key.str _) _) (Value.ref _)) _ _ _); k_dflt (refine' in_keys (by k_asm) (by k_asm) (by assumption) (by assumption) ?_)) | ((with_reducible show wpAny _ _ (call (Value.builtin _) [Value.ref _]) _ _ _); (with_reducible rename PhAre _ _ _ => hTk); k_dflt (with_reducible refine' m_len (by k_asm) (by k_asm) (by with_reducible assumption) (Nat.le_trans (PhAre.small hTk) (by decide)) ?_)) | ((with_reducible show wpAny _ _ (subscriptTail _ _ (Value.ref _) (Value.int _ _)) _ _ _); (with_reducible rename PhAre _ _ _ => hTk); (with_unfolding_all refine' m_item_at (by k_asm) (by k_asm) (by with_reducible assumption) (by omega) (Nat.le_trans (PhAre.small hTk) (by decide)) (by with_reducible assumption) ?_ (by with_unfolding_all rfl))) | ((with_reducible show wpAny _ _ (subscriptTail _ _ (Value.ref _) (Value.int _ _)) _ _ _); k_dflt (first | refine' cold_tup 0 (by k_asm) (by k_asm) (by with_reducible assumption) (by decide) (by decide) rfl ?_ | refine' cold_tup 1 (by k_asm) (by k_asm) (by with_reducible assumption) (by decide) (by decide) rfl ?_)) | ((with_reducible show wpAny _ _ (binaryOp Operator.Mult (Value.ref _) (Value.int _ _)) _ _ _); k_dflt (refine' tup_mulN (by first | assumption | omega) (by assumption) (by k_asm) (by k_asm) (by k_mem) ?_; k_whole; intro _ _ _ _ _)) | ((with_reducible show wpAny _ _ (call (Value.builtin _) _) _ _ _); k_dflt ((show wpAny _ _ (call (Value.builtin "list.append") [Value.ref _, _]) _ _ _); refine' m_append (by k_asm) (by k_asm) (by (repeat (first | with_reducible exact Pick.here | apply Pick.there)); done) (by (repeat' (first | exact NoCls.nil | exact AllTup.no (by assumption) (cls_ne rfl) | exact AllTup.no (by assumption) (cls_to (by assumption) (cls_ne rfl)) | refine NoCls.cons (by first | exact cls_ne rfl | exact ref_ne | exact cls_ne' (by assumption) rfl | exact cls_to (by assumption) (cls_ne rfl)) ?_)); done) (by assumption) ?_); intro _ _ _) | ((with_reducible show UnrEnd _ _ _ _ _ _ _); k_dflt (refine' unrEnd_pick (by k_asm) (by k_asm) (by (repeat (first | with_reducible exact Pick.here | apply Pick.there)); done) (by (repeat' (first | exact NoCls.nil | exact AllTup.no (by assumption) (cls_ne rfl) | exact AllTup.no (by assumption) (cls_to (by assumption) (cls_ne rfl)) | refine NoCls.cons (by first | exact cls_ne rfl | exact ref_ne | exact cls_ne' (by assumption) rfl | exact cls_to (by assumption) (cls_ne rfl)) ?_)); done) ?_)) | walk1) | (leave1; walk_say "STEP leave1"; try dsimp only) | fail "no step")
      exact dueJ_stay hkey hf (due_none (by omega)) hpz hb hlen aX (fun z hz => by simp only [dst_ne hz, hz, if_false, Bool.false_eq_true]; try rfl) (by k_mem) (fun x hx => by k_mem)
  case done =>
    clear kF kN
    rintro m₁ nx h tk ⟨u, pz, tp', items, nb, extras, bs, rfl, mB, mX, aX, hpz, hf, hb, hlen⟩ F1 N1
    have N2 : News g' L' h ((Bl, listOf items.toArray nb) :: extras) := fun q hq => N1 q (by
      rcases List.mem_cons.mp hq with rfl | hq
      · exact mB
      · exact mX q hq)
    clear N1 mB mX
    have hlk := hKs.len
    rw [hKs.len, List.take_length] at hf
    try dsimp only
    repeat' (first | (k_unfold; (try dsimp only)) | (k_end; first | kc_close | wrow_close) | ((with_reducible show wpAny _ _ (compareOp CmpOp.In (Value.str (Key.str _) _) (Value.ref _)) _ _ _); k_dflt (refine' in_keys (by k_asm) (by k_asm) (by assumption) (by assumption) ?_)) | ((with_reducible show wpAny _ _ (call (Value.builtin _) [Value.ref _]) _ _ _); (with_reducible rename PhAre _ _ _ => hTk); k_dflt (with_reducible refine' m_len (by k_asm) (by k_asm) (by with_reducible assumption) (Nat.le_trans (PhAre.small hTk) (by decide)) ?_)) | ((with_reducible show wpAny _ _ (subscriptTail _ _ (Value.ref _) (Value.int _ _)) _ _ _); (with_reducible rename PhAre _ _ _ => hTk); (with_unfolding_all refine' m_item_at (by k_asm) (by k_asm) (by with_reducible assumption) (by omega) (Nat.le_trans (PhAre.small hTk) (by decide)) (by with_reducible assumption) ?_ (by with_unfolding_all rfl))) | ((with_reducible show wpAny _ _ (subscriptTail _ _ (Value.ref _) (Value.int _ _)) _ _ _); k_dflt (first | refine' cold_tup 0 (by k_asm) (by k_asm) (by with_reducible assumption) (by decide) (by decide) rfl ?_ | refine' cold_tup 1 (by k_asm) (by k_asm) (by with_reducible assumption) (by decide) (by decide) rfl ?_)) | ((with_reducible show wpAny _ _ (binaryOp Operator.Mult (Value.ref _) (Value.int _ _)) _ _ _); k_dflt (refine' tup_mulN (by first | assumption | omega) (by assumption) (by k_asm) (by k_asm) (by k_mem) ?_; k_whole; intro _ _ _ _ _)) | ((with_reducible show wpAny _ _ (call (Value.builtin _) _) _ _ _); k_dflt ((show wpAny _ _ (call (Value.builtin "list.append") [Value.ref _, _]) _ _ _); refine' m_append (by k_asm) (by k_asm) (by (repeat (first | with_reducible exact Pick.here | apply Pick.there)); done) (by (repeat' (first | exact NoCls.nil | exact AllTup.no (by assumption) (cls_ne rfl) | exact AllTup.no (by assumption) (cls_to (by assumption) (cls_ne rfl)) | refine NoCls.cons (by first | exact cls_ne rfl | exact ref_ne | exact cls_ne' (by assumption) rfl | exact cls_to (by assumption) (cls_ne rfl)) ?_)); done) (by assumption) ?_); intro _ _ _) | ((with_reducible show UnrEnd _ _ _ _ _ _ _); k_dflt (refine' unrEnd_pick (by k_asm) (by k_asm) (by (repeat (first | with_reducible exact Pick.here | apply Pick.there)); done) (by (repeat' (first | exact NoCls.nil | exact AllTup.no (by assumption) (cls_ne rfl) | exact AllTup.no (by assumption) (cls_to (by assumption) (cls_ne rfl)) | refine NoCls.cons (by first | exact cls_ne rfl | exact ref_ne | exact cls_ne' (by assumption) rfl | exact cls_to (by assumption) (cls_ne rfl)) ?_)); done) ?_)) | walk1 | (dsimp only; first | ((with_reducible show wpAny _ _ (compareOp CmpOp.In (Value.str (Key.str _) _) (Value.ref _)) _ _ _); k_dflt (refine' in_keys (by k_asm) (by k_asm) (by assumption) (by assumption) ?_)) | ((with_reducible show wpAny _ _ (call (Value.builtin _) [Value.ref _]) _ _ _); (with_reducible rename PhAre _ _ _ => hTk); k_dflt (with_reducible refine' m_len (by k_asm) (by k_asm) (by with_reducible assumption) (Nat.le_trans (PhAre.small hTk) (by decide)) ?_)) | ((with_reducible show wpAny _ _ (subscriptTail _ _ (Value.ref _) (Value.int _ _)) _ _ _); (with_reducible rename PhAre _ _ _ => hTk); (with_unfolding_all refine' m_item_at (by k_asm) (by k_asm) (by with_reducible assumption) (by omega) (Nat.le_trans (PhAre.small hTk) (by decide)) (by with_reducible assumption) ?_ (by with_unfolding_all rfl))) | ((with_reducible show wpAny _ _ (subscriptTail _ _ (Value.ref _) (Value.int _ _)) _ _ _); k_dflt (first | refine' cold_tup 0 (by k_asm) (by k_asm) (by with_reducible assumption) (by decide) (by decide) rfl ?_ | refine' cold_tup 1 (by k_asm) (by k_asm) (by with_reducible assumption) (by decide) (by decide) rfl ?_)) | ((with_reducible show wpAny _ _ (binaryOp Operator.Mult (Value.ref _) (Value.int _ _)) _ _ _); k_dflt (refine' tup_mulN (by first | assumption | omega) (by assumption) (by k_asm) (by k_asm) (by k_mem) ?_; k_whole; intro _ _ _ _ _)) | ((with_reducible show wpAny _ _ (call (Value.builtin _) _) _ _ _); k_dflt ((show wpAny _ _ (call (Value.builtin "list.append") [Value.ref _, _]) _ _ _); refine' m_append (by k_asm) (by k_asm) (by (repeat (first | with_reducible exact Pick.here | apply Pick.there)); done) (by (repeat' (first | exact NoCls.nil | exact AllTup.no (by assumption) (cls_ne rfl) | exact AllTup.no (by assumption) (cls_to (by assumption) (cls_ne rfl)) | refine NoCls.cons (by first | exact cls_ne rfl | exact ref_ne | exact cls_ne' (by assumption) rfl | exact cls_to (by assumption) (cls_ne rfl)) ?_)); done) (by assumption) ?_); intro _ _ _) | ((with_reducible show UnrEnd _ _ _ _ _ _ _); k_dflt (refine' unrEnd_pick (by k_asm) (by k_asm) (by (repeat (first | with_reducible exact Pick.here | apply Pick.there)); done) (by (repeat' (first | exact NoCls.nil | exact AllTup.no (by assumption) (cls_ne rfl) | exact AllTup.no (by assumption) (cls_to (by assumption) (cls_ne rfl)) | refine NoCls.cons (by first | exact cls_ne rfl | exact ref_ne | exact cls_ne' (by assumption) rfl | exact cls_to (by assumption) (cls_ne rfl)) ?_)); done) ?_)) | walk1) | (leave1; walk_say "STEP leave1"; try dsimp only) | fail "no step")
    refine EndR.sub ((_, tupObj [.ref Bl, .int (pz : Nat) tp', .bool false] 0) :: (Bl, listOf items.toArray nb) :: extras) (by assumption) (by assumption) (sub_cons (by k_mem) (sub_cons (by k_mem) (fun x hx => by k_mem))) ?_
    refine ⟨_, _, pz, false, tp', items, 0, nb, extras, rfl, rfl, aX, ?_⟩
    rw [hf]
    exact ⟨rfl, rfl, hb, by omega⟩
end
end
section
section
open PyProof.Rows.LCg
variable {prog : Program} {w : World} {A : Around} {E : Value → Shared → Prop} {s : Shared} {h₀ : Heap} {L : Addr} {m : PySem.Str → Option Value} {env : Env}
theorem asg3 {a b c : PySem.Str} {pa pb pc tp : Pos} {kk : Nat} {T : Addr} {x y z : Value} {m : PySem.Str → Option Value} {Q : Unit → Shared → Prop} (hh : A.handled = none) (ht : s.heap.IsTuple T #[x, y, z])
    (ha : env.kindOf a = some .local) (hb : env.kindOf b = some .local) (hc : env.kindOf c = some .local) (hp : (env.scope.kind == .class || (env.scope.kind == .module && env.locals != env.globals)) = false) (hn : s.heap.Ns env.locals m)
    (h : ∀ (h' : Heap) (tk : Nat), h'.Ns env.locals (fun q => if q = c then some z else if q = b then some y else if q = a then some x else m q) → (∀ c o, c ≠ env.locals → s.heap.get? c = some o → h'.get? c = some o) → Q () { s with heap := h', toks := tk }) :
    wpAny (model prog w) A (assign (.Tuple [.Name a pa, .Name b pb, .Name c pc] kk tp) env (.ref T)) Q E s := by
  refine assign_Tuple_tuple hh ht rfl rfl fun h₁ he₁ => ?_
  have hL : env.locals ≠ s.heap.objs.size := Nat.ne_of_lt hn.lt
  have hn₁ : h₁.Ns env.locals m := hn.at' fun o e => he₁ _ o hL e
  have up₁ : ∀ c o, s.heap.get? c = some o → h₁.get? c = some o := fun c o e => he₁ c o (Nat.ne_of_lt (Heap.lt_size e)) e
  show wpAny _ _ (assignInOrder [assign (.Name a pa) env, assign (.Name b pb) env, assign (.Name c pc) env] [x, y, z]) _ _ _
  refine assignInOrder_cons (wpAny_assign_Name (wpAny_storeName_local ha hn₁ (fun h₂ hn₂ hs₂ => ?_) hp))
  refine assignInOrder_cons (wpAny_assign_Name (wpAny_storeName_local hb hn₂ (fun h₃ hn₃ hs₃ => ?_) hp))
  refine assignInOrder_cons (wpAny_assign_Name (wpAny_storeName_local hc hn₃ (fun h₄ hn₄ hs₄ => ?_) hp))
  refine assignInOrder_nil ?_
  exact h h₄ _ hn₄ fun c o hc e => hs₄.extBut c o hc (hs₃.extBut c o hc (hs₂.extBut c o hc (up₁ c o e)))
/-- «a, (b, c)» -/
theorem asgN {a b c : PySem.Str} {pa pb pc tp tq : Pos} {kk kj : Nat} {T U : Addr} {x y z : Value} {m : PySem.Str → Option Value} {Q : Unit → Shared → Prop} (hh : A.handled = none) (ht : s.heap.IsTuple T #[x, .ref U]) (hu : s.heap.IsTuple U #[y, z]) (hU : U ≠ env.locals)
    (ha : env.kindOf a = some .local) (hb : env.kindOf b = some .local) (hc : env.kindOf c = some .local) (hp : (env.scope.kind == .class || (env.scope.kind == .module && env.locals != env.globals)) = false) (hn : s.heap.Ns env.locals m)
    (h : ∀ (h' : Heap) (tk : Nat), h'.Ns env.locals (fun q => if q = c then some z else if q = b then some y else if q = a then some x else m q) → (∀ c o, c ≠ env.locals → s.heap.get? c = some o → h'.get? c = some o) → Q () { s with heap := h', toks := tk }) :
    wpAny (model prog w) A (assign (.Tuple [.Name a pa, .Tuple [.Name b pb, .Name c pc] kj tq] kk tp) env (.ref T)) Q E s := by
  refine assign_Tuple_tuple hh ht rfl rfl fun h₁ he₁ => ?_
  have hL : env.locals ≠ s.heap.objs.size := Nat.ne_of_lt hn.lt
  have hn₁ : h₁.Ns env.locals m := hn.at' fun o e => he₁ _ o hL e
  have up₁ : ∀ c o, s.heap.get? c = some o → h₁.get? c = some o := fun c o e => he₁ c o (Nat.ne_of_lt (Heap.lt_size e)) e
  show wpAny _ _ (assignInOrder [assign (.Name a pa) env, assign (.Tuple [.Name b pb, .Name c pc] kj tq) env] [x, .ref U]) _ _ _
  refine assignInOrder_cons (wpAny_assign_Name (wpAny_storeName_local ha hn₁ (fun h₂ hn₂ hs₂ => ?_) hp))
  refine assignInOrder_cons ?_
  refine kcp_assign hh ((hu.at fun o e => up₁ _ o e).at fun o e => hs₂.extBut _ o hU e) hb hc hp hn₂ fun h' tk hn' hk' => ?_
  refine assignInOrder_nil ?_
  exact h h' tk hn' fun c o hc e => hk' c o hc (hs₂.extBut c o hc (up₁ c o e))
theorem turn_after {own : Led} {C D : Addr} {ys : List Value} {h₁ h' : Heap} {oC : Obj} {m₂ : PySem.Str → Option Value} {news₁ : Led}
    (F : Fr h₀ L h₁ m) (N : News h₀ L h₁ (own ++ (C, oC) :: (D, lst ys) :: news₁)) (hCD : C ≠ D) (hCL : C ≠ L) (hC₀ : h₀.get? C = none) (offO : ∀ p ∈ own, p.1 ≠ C) (off : ∀ p ∈ news₁, p.1 ≠ C)
    (hk : ∀ b o, b ≠ C → h₁.get? b = some o → h'.get? b = some o) (hn : h'.Ns C m₂) : Fr h₀ L h' m ∧ ∃ oC', NsObj oC' m₂ ∧ News h₀ L h' ((C, oC') :: (D, lst ys) :: (own ++ news₁)) := by
  obtain ⟨oC', heC, hoC⟩ := ns_obj hn
  refine ⟨⟨F.ns.at' fun o e => hk _ o (Ne.symm hCL) e, fun b o e => hk b o (fun q => by rw [q, hC₀] at e; cases e) (F.keep b o e), F.above⟩, oC', hoC, fun p hp => ?_⟩
  rcases List.mem_cons.mp hp with rfl | hp
  · exact ⟨heC, hCL, hC₀⟩
  rcases List.mem_cons.mp hp with rfl | hp
  · have z := N _ (List.mem_append_right _ (List.mem_cons_of_mem _ List.mem_cons_self))
    exact ⟨hk _ _ (Ne.symm hCD) z.1, z.2⟩
  rcases List.mem_append.mp hp with hp | hp
  · have z := N p (List.mem_append_left _ hp)
    exact ⟨hk _ _ (offO p hp) z.1, z.2⟩
  · have z := N p (List.mem_append_right _ (List.mem_cons_of_mem _ (List.mem_cons_of_mem _ hp)))
    exact ⟨hk _ _ (off p hp) z.1, z.2⟩
theorem TurnEnd.walk {s₁ : Shared} {own : Led} {C D : Addr} {wr fp : List Addr} {ys : List Value} {J : List Value → Led → Prop} {y : Value} {h' : Heap} {tk : Nat} {oC : Obj} {m₂ : PySem.Str → Option Value} {news₁ all : Led} (extra : Led)
    (F : Fr h₀ L h' m) (N : News h₀ L h' all) (hC : NsObj oC m₂) (hfp : ∀ b ∈ fp, b < D) (hw : ∀ b ∈ wr, b ∈ fp) (off : ∀ p ∈ news₁, p.1 ∉ wr ∧ p.1 ≠ C ∧ p.1 ≠ D)
    (hs : ∀ q ∈ extra ++ (C, oC) :: (D, lst ys) :: (own ++ news₁), q ∈ all) (hx : ∀ q ∈ extra, C < q.1 ∧ D < q.1) (hJ : J (ys ++ [y]) (extra ++ news₁)) :
    TurnEnd h₀ L m s₁ own C D wr ys J y { s₁ with heap := h', toks := tk } := by
  refine ⟨h', tk, oC, m₂, extra ++ news₁, rfl, hC, F, fun p hp => N p (hs p ?_), fun p hp => ?_, hJ⟩
  · simp only [List.mem_append, List.mem_cons] at hp ⊢
    rcases hp with hp | hp | hp | hp | hp
    · exact .inr (.inr (.inr (.inl hp)))
    · exact .inr (.inl hp)
    · exact .inr (.inr (.inl hp))
    · exact .inl hp
    · exact .inr (.inr (.inr (.inr hp)))
  · rcases List.mem_append.mp hp with hp | hp
    · have := hx p hp
      exact ⟨fun hm => Nat.lt_asymm this.2 (hfp _ (hw _ hm)), fun e => Nat.lt_irrefl _ (e ▸ this.1), fun e => Nat.lt_irrefl _ (e ▸ this.2)⟩
    · exact off p hp
end
end
section
structure PairsAre (cold : Led) (vs : List Value) (ws : List (PySem.Str × PySem.Str)) : Prop where
  len : vs.length = ws.length
  small : vs.length ≤ 1000
  get : ∀ (i : Nat) (v : Value), vs[i]? = some v → ∃ (T : Addr) (n : Nat) (t u : Tok) (kd wd : PySem.Str), ws[i]? = some (kd, wd) ∧ v = .ref T ∧ (T, tupObj [.str kd t, .str wd u] n) ∈ cold
inductive Sp where
  | ssier
  | sonsier
  | snosier
  | snoonsier
  | saten
  | sen
  | snoaten
  | snoen
  | sin
  | sinke
  | snoin
  | snoinke
  | sov
  | sonov
  | snoov
  | snoonov
  | sex
  | sonex
  | snoex
  | snoonex
  | sco
noncomputable def Sp.text : Sp → PySem.Str
  | .ssier => S "SIZE ERROR"
  | .sonsier => S "ON SIZE ERROR"
  | .snosier => S "NOT SIZE ERROR"
  | .snoonsier => S "NOT ON SIZE ERROR"
  | .saten => S "AT END"
  | .sen => S "END"
  | .snoaten => S "NOT AT END"
  | .snoen => S "NOT END"
  | .sin => S "INVALID"
  | .sinke => S "INVALID KEY"
  | .snoin => S "NOT INVALID"
  | .snoinke => S "NOT INVALID KEY"
  | .sov => S "OVERFLOW"
  | .sonov => S "ON OVERFLOW"
  | .snoov => S "NOT OVERFLOW"
  | .snoonov => S "NOT ON OVERFLOW"
  | .sex => S "EXCEPTION"
  | .sonex => S "ON EXCEPTION"
  | .snoex => S "NOT EXCEPTION"
  | .snoonex => S "NOT ON EXCEPTION"
  | .sco => S "CONTINUE"
noncomputable def Sp.words : Sp → List (PySem.Str × PySem.Str)
  | .ssier => [(S "word", S "SIZE"), (S "word", S "ERROR")]
  | .sonsier => [(S "word", S "ON"), (S "word", S "SIZE"), (S "word", S "ERROR")]
  | .snosier => [(S "word", S "NOT"), (S "word", S "SIZE"), (S "word", S "ERROR")]
  | .snoonsier => [(S "word", S "NOT"), (S "word", S "ON"), (S "word", S "SIZE"), (S "word", S "ERROR")]
  | .saten => [(S "word", S "AT"), (S "word", S "END")]
  | .sen => [(S "word", S "END")]
  | .snoaten => [(S "word", S "NOT"), (S "word", S "AT"), (S "word", S "END")]
  | .snoen => [(S "word", S "NOT"), (S "word", S "END")]
  | .sin => [(S "word", S "INVALID")]
  | .sinke => [(S "word", S "INVALID"), (S "word", S "KEY")]
  | .snoin => [(S "word", S "NOT"), (S "word", S "INVALID")]
  | .snoinke => [(S "word", S "NOT"), (S "word", S "INVALID"), (S "word", S "KEY")]
  | .sov => [(S "word", S "OVERFLOW")]
  | .sonov => [(S "word", S "ON"), (S "word", S "OVERFLOW")]
  | .snoov => [(S "word", S "NOT"), (S "word", S "OVERFLOW")]
  | .snoonov => [(S "word", S "NOT"), (S "word", S "ON"), (S "word", S "OVERFLOW")]
  | .sex => [(S "word", S "EXCEPTION")]
  | .sonex => [(S "word", S "ON"), (S "word", S "EXCEPTION")]
  | .snoex => [(S "word", S "NOT"), (S "word", S "EXCEPTION")]
  | .snoonex => [(S "word", S "NOT"), (S "word", S "ON"), (S "word", S "EXCEPTION")]
  | .sco => [(S "word", S "CONTINUE")]
end
section
noncomputable def TokJ (ws : List (PySem.Str × PySem.Str)) (i : Nat) (ys : List Value) (nx : Led) : Prop := ys.length = i ∧ ∀ (j : Nat) (v : Value), ys[j]? = some v → ∃ kd wd, ws[j]? = some (kd, wd) ∧ TokIs nx v kd wd j
section
open PyProof.Rows.LCg
theorem tok_end {h₀ : Heap} {L : Addr} {m : PySem.Str → Option Value} {s₁ : Shared} {own news₁ rest : Led} {C D q d x : Addr} {wr fp : List Addr} {ys : List Value} {ws : List (PySem.Str × PySem.Str)} {h' : Heap} {tk i : Nat} {oC : Obj} {m₂ : PySem.Str → Option Value} {kd wd : PySem.Str}
    {h1 h2 h3 h4 : Int} {t1 t2 t3 t4 u1 u2 u3 u4 : Tok} {n : Nat} {R1 R2 : Prop} (l1 : C < q ∧ D < q ∧ R1) (l2 : q < d ∧ C < d ∧ D < d ∧ R2) (l3 : d < x) (F : Fr h₀ L h' m)
    (N : News h₀ L h' ((x, instObj 296 d) :: (d, tokDict h1 h2 h3 h4 t1 t2 t3 t4 u1 u2 kd wd q) :: (q, tupObj [.int ((i : Int) + 1) u3, .int 12 u4] n) :: (C, oC) :: (D, lst ys) :: rest)) (hr : own ++ news₁ = rest)
    (hC : NsObj oC m₂) (hfp : ∀ b ∈ fp, b < D) (hw : ∀ b ∈ wr, b ∈ fp) (off : ∀ p ∈ news₁, p.1 ∉ wr ∧ p.1 ≠ C ∧ p.1 ≠ D) (hJ : TokJ ws i ys news₁) (hws : ws[i]? = some (kd, wd)) :
    TurnEnd h₀ L m s₁ own C D wr ys (TokJ ws (i + 1)) (.ref x) { s₁ with heap := h', toks := tk } := by
  subst hr
  refine TurnEnd.walk [(x, instObj 296 d), (d, tokDict h1 h2 h3 h4 t1 t2 t3 t4 u1 u2 kd wd q), (q, tupObj [.int ((i : Int) + 1) u3, .int 12 u4] n)] F N hC hfp hw off (fun p hp => hp) (fun p hp => ?_) ⟨?_, fun j v e => ?_⟩
  · rcases List.mem_cons.mp hp with rfl | hp
    · exact ⟨Nat.lt_trans l2.2.1 l3, Nat.lt_trans l2.2.2.1 l3⟩
    rcases List.mem_cons.mp hp with rfl | hp
    · exact ⟨l2.2.1, l2.2.2.1⟩
    rcases List.mem_cons.mp hp with rfl | hp
    · exact ⟨l1.1, l1.2.1⟩
    · cases hp
  · rw [List.length_append, hJ.1]; rfl
  · rw [List.getElem?_append] at e
    split at e
    · obtain ⟨kd', wd', e1, e2⟩ := hJ.2 j v e
      exact ⟨kd', wd', e1, e2.mono fun p hp => List.mem_append_right _ hp⟩
    · have hl := hJ.1
      have hj : j = i := by
        have := (List.getElem?_eq_some_iff.mp e).1
        simp only [List.length_singleton] at this
        omega
      subst hj
      rw [hl, Nat.sub_self] at e
      cases e
      exact ⟨kd, wd, hws, ⟨x, d, q, h1, h2, h3, h4, t1, t2, t3, t4, u1, u2, u3, u4, n, rfl, .head _, .tail _ (.head _), .tail _ (.tail _ (.head _))⟩⟩
end
theorem AllLt.lt {d : Nat} : ∀ {l : Led}, AllLt d l → ∀ q ∈ l, @LT.lt Nat _ q.1 d
  | [], _, _, h => nomatch h
  | _ :: _, x, _, h => (List.mem_cons.mp h).elim (fun e => e ▸ x.1) (AllLt.lt x.2 _)
section
open PyProof.Rows.LCg
theorem rd_end {g : Heap} {L : Addr} {m : PySem.Str → Option Value} {s : Shared} {news' : Led} {D d x dn : Addr} {on : Obj} {ys : List Value} {ws : List (PySem.Str × PySem.Str)} {h' : Heap} {tk n : Nat}
    {h1 h2 h3 : Int} {t1 t2 t3 tp : Tok} {R1 : Prop} (l1 : D < d ∧ AllLt d news') (l2 : d < x) (l3 : x < dn ∧ d < dn ∧ R1) (F : Fr g L h' m)
    (N : News g L h' ((dn, on) :: (x, instObj 266 d) :: (d, rdDict h1 h2 h3 t1 t2 t3 D dn 0 tp) :: (D, lst ys) :: news'))
    (hJ : TokJ ws n ys news') (hn : n = ws.length) (hn2 : n ≤ 1000) :
    EndR g s (fun tl r => ∃ R dR Lt Dn h1 h2 h3 t1 t2 t3 tp extras, r = .ref R ∧ tl = (dR, rdDict h1 h2 h3 t1 t2 t3 Lt Dn ((0 : Nat) : Int) tp) :: extras ∧ RdC extras R dR Lt ws ∧ OffA extras dR) (.ok (.ret (.ref x))) { s with heap := h', toks := tk } := by
  have hl := AllLt.lt l1.2
  refine EndR.sub ((d, rdDict h1 h2 h3 t1 t2 t3 D dn 0 tp) :: (x, instObj 266 d) :: (dn, on) :: (D, lst ys) :: news') F N (fun q hq => ?_) ⟨x, d, D, dn, h1, h2, h3, t1, t2, t3, tp, (x, instObj 266 d) :: (dn, on) :: (D, lst ys) :: news', rfl, rfl, ⟨.head _, ys, ys.length, .tail _ (.tail _ (.head _)), ?_, ?_, ?_⟩, fun q hq => ?_⟩
  · simp only [List.mem_cons] at hq ⊢
    rcases hq with hq | hq | hq | hq | hq
    · exact .inr (.inr (.inl hq))
    · exact .inr (.inl hq)
    · exact .inl hq
    · exact .inr (.inr (.inr (.inl hq)))
    · exact .inr (.inr (.inr (.inr hq)))
  · exact hJ.1.trans hn
  · rw [hJ.1]; exact hn2
  · intro j v e
    obtain ⟨kd, wd, e1, e2⟩ := hJ.2 j v e
    exact ⟨kd, wd, e1, e2.mono fun q hq => .tail _ (.tail _ (.tail _ hq))⟩
  · rcases List.mem_cons.mp hq with rfl | hq
    · exact Nat.ne_of_gt l2
    rcases List.mem_cons.mp hq with rfl | hq
    · exact Nat.ne_of_gt l3.2.1
    rcases List.mem_cons.mp hq with rfl | hq
    · exact Nat.ne_of_lt l1.1
    · exact Nat.ne_of_lt (hl q hq)
end
section
variable {w : World} {A₀ : Around} {Q E : Value → Shared → Prop} {s : Shared} {h₀ base : Heap} {L : Addr} {m mg mb : PySem.Str → Option Value} {hot news cold cold' all rest : Led} {p : Program} {loose : List PySem.Str} {mean : ExcName → Option Value}
  {dp un : Nat} {gd : Option (List Code)} {cn : PySem.Str} {cs : Scope} {a : Addr} {ccd : Value} {cl : List (PySem.Str × Addr)} {outer : List Env}
  {Pl : Addr} {np : Nat} {pvs : List Value} {ws : List (PySem.Str × PySem.Str)}
theorem reader_ct (B : Below A₀ base outer h₀) (F : Fr h₀ L s.heap m) (X : (Mine.heap w.params).In h₀) (N : News h₀ L s.heap news) (T : Top p loose mean mg mb h₀) (hk : cs.kind = .function)
    (hC : ColdAt s.heap cold) (hP : (Pl, listOf pvs.toArray np) ∈ cold) (hPs : PairsAre cold pvs ws) (hd : dp + 15 < recursionLimit) (hu : un + 120 < cLine)
    (ret : ∀ R dR Lt Dn h1 h2 h3 t1 t2 t3 tp extras h' tk', Fr h₀ L h' m → News h₀ L h' ((dR, rdDict h1 h2 h3 t1 t2 t3 Lt Dn ((0 : Nat) : Int) tp) :: (extras ++ news)) → RdC extras R dR Lt ws → OffA extras dR → OffA news dR → OffA cold dR → Q (.ref R) { s with heap := h', toks := tk' }) :
    wpAny (model PySem.Challenge.rw_pb0257_01.row.prog w) (ktrTop dp un gd cn cs L a ccd cl outer) (call (.ref 329) [.ref Pl]) Q E s := by
  revert X
  k_fill
  w_on
  intro X
  refine' ct_enter (hot := []) (news := news) (cold := cold)
    (Post := fun tl r => ∃ R dR Lt Dn h1 h2 h3 t1 t2 t3 tp extras, r = .ref R ∧ tl = (dR, rdDict h1 h2 h3 t1 t2 t3 Lt Dn ((0 : Nat) : Int) tp) :: extras ∧ RdC extras R dR Lt ws ∧ OffA extras dR)
    [(S "tokens", .ref Pl)] B F X N (fun _ _ _ hp => nomatch hp) hC (fun _ _ _ hp => nomatch hp) T hk ?ret ?ho ?hcd ?hroom ?hbind ?hloc ?c1 ?c2 ?c3 ?c4 ?_
  case ret =>
    rintro r tl h' tk' F' N' O' ⟨R, dR, Lt, Dn, h1, h2, h3, t1, t2, t3, tp, extras, rfl, rfl, e2, e3⟩
    exact ret R dR Lt Dn h1 h2 h3 t1 t2 t3 tp extras h' tk' F' N' e2 e3 (fun q hq => O' q (List.mem_append_left _ hq) _ List.mem_cons_self) (fun q hq => O' q (List.mem_append_right _ hq) _ List.mem_cons_self)
  case ho => k_is
  case hcd => k_is
  case hroom => k_room
  case hbind => exact BindsTo.of_eq rfl
  case hloc => exact locs rfl
  case c1 => exact rfl
  case c2 => exact rfl
  case c3 => exact rfl
  case c4 => decide
  clear ret N hC
  intro g' L' h' FG' F' N' hC' B' X' T'
  try dsimp only
  k_fold
  repeat' (first | (k_unfold; (try dsimp only)) | (k_end; first | kc_close | wrow_close) | ((with_reducible show wpAny _ _ (eval (PySem.Expr.ListComp _ _ _ _) _) _ _ _); k_here; k_dflt (refine' ListComp_turns (by k_asm) (by with_unfolding_all rfl) (by decide) (by rfl) (by decide) ?_ (by intro _; rfl))) | ((fail_if_success (with_reducible show wpAny _ _ (call (Value.type "enumerate") _) _ _ _)); walk1) | ((fail_if_success (with_reducible show wpAny _ _ (call (Value.type "enumerate") _) _ _ _)); dsimp only; (fail_if_success (with_reducible show wpAny _ _ (call (Value.type "enumerate") _) _ _ _)); walk1) | ((fail_if_success (with_reducible show wpAny _ _ (call (Value.type "enumerate") _) _ _ _)); leave1; walk_say "STEP leave1"; try dsimp only) | fail "no step")
  refine comp_enum (l := Pl) (vs := pvs) (nl := np) (TokJ ws) (by exact rfl) (hC' _ hP) (Nat.le_trans hPs.small (by decide)) (by assumption) (by assumption) ⟨rfl, fun j v e => by cases e⟩ ?turn ?done
  case turn =>
    intro i T0 x t ys news₁ h₁ tk₁ own C oC D m₁ E' hx hT hJ offN offO hCD hCL hfp hC₀ hoC F₁ N₁
    obtain ⟨U, nU, t1, t2, kd, wd, hw, rfl, hU⟩ := hPs.get i x hx
    have hUT : h₁.IsTuple U #[.str kd t1, .str wd t2] := ⟨_, F₁.keep _ _ (hC' _ hU), rfl, _, rfl⟩
    have hUC : U ≠ C := fun e => by have := hC' _ hU; rw [e, hC₀] at this; cases this
    refine asgN (by exact rfl) hT hUT hUC rfl rfl rfl rfl (hoC.ns (N₁ _ (List.mem_append_right _ List.mem_cons_self)).1) fun h2 tk2 hn2 hk2 => ?_
    obtain ⟨m₂, e1, e2, e3, hn3⟩ : ∃ m₂, m₂ (S "at") = some (.int (i : Int) t) ∧ m₂ (S "kind") = some (.str kd t1) ∧ m₂ (S "worth") = some (.str wd t2) ∧ h2.Ns C m₂ := ⟨_, rfl, rfl, rfl, hn2⟩
    obtain ⟨F2, oC2, hoC2, N2⟩ := turn_after F₁ N₁ hCD hCL hC₀ (fun p hp => (offO p hp).2.1) (fun p hp => (offN p hp).2.1) hk2 hn3
    generalize hr : own ++ news₁ = rest at N2
    clear hn2 hn3 hoC F₁ N₁ hT hUT hk2
    try dsimp only
    k_steps
    exact tok_end (by assumption) (by assumption) (by assumption) (by assumption) (by assumption) hr hoC2 hfp (fun b hb => (by simp only [List.mem_cons, List.not_mem_nil, or_false] at hb ⊢; rcases hb with rfl | rfl <;> simp)) offN hJ hw
  case done =>
    intro D h tk ys news' F1 N1 offD hJ
    try dsimp only
    k_steps
    exact rd_end (by assumption) (by assumption) (by assumption) (by assumption) (by assumption) hJ hPs.len hPs.small
end
end
section
section
open PyProof.Rows.LCg
variable {prog : Program} {w : World} {A : Around} {E : Value → Shared → Prop} {s : Shared} {h₀ : Heap} {L : Addr} {m : PySem.Str → Option Value} {env : Env}
/-- a comprehension with one name over a list of the ledger -/
theorem comp_list {elt : PySem.Expr} {y : PySem.Str} {pos : Pos} {scope : Scope} {cl : List (PySem.Str × Addr)} {l : Addr} {vs : List Value} {nl : Nat} {news : Led} {Q : Value → Shared → Prop} (J : Nat → List Value → Led → Prop)
    (hh : A.handled = none) (hm : (l, listOf vs.toArray nl) ∈ news) (hz : vs.length ≤ sizeLine) (F : Fr h₀ L s.heap m) (N : News h₀ L s.heap news) (hj : J 0 [] news)
    (turn : ∀ i v ys news₁ h₁ tk₁ own C oC D m₁ (E' : Value → Shared → Prop), vs[i]? = some v → J i ys news₁ → (∀ p ∈ news₁, p.1 ∉ [s.heap.objs.size] ∧ p.1 ≠ C ∧ p.1 ≠ D) → (∀ p ∈ own, p.1 ∈ [s.heap.objs.size, l] ∧ p.1 ≠ C ∧ p.1 ≠ D) → C ≠ D → C ≠ L → (∀ b ∈ [s.heap.objs.size, l], b < D) → h₀.get? C = none → NsObj oC m₁ → Fr h₀ L h₁ m → News h₀ L h₁ (own ++ (C, oC) :: (D, lst ys) :: news₁) →
      wpAny (model prog w) A (assign (.Name y pos) (compEnvC scope cl C env) v) (fun _ s₃ => wpAny (model prog w) A (eval elt (compEnvC scope cl C env))
        (TurnEnd h₀ L m { s with heap := h₁, toks := tk₁ } own C D [s.heap.objs.size] ys (J (i + 1))) E' s₃) E' { s with heap := h₁, toks := tk₁ })
    (done : ∀ D h tk ys news', Fr h₀ L h m → News h₀ L h ((D, lst ys) :: news') → (∀ p ∈ news', p.1 ≠ D) → J vs.length ys news' → Q (.ref D) { s with heap := h, toks := tk }) :
    wpAny (model prog w) A (pyIter (.ref l)) (fun it s₂ => CompAt prog w A h₀ L m env elt (.Name y pos) scope cl Q it s₂) E s := by
  have hls : s.heap.IsList l vs.toArray := ⟨_, (N _ hm).1, rfl, _, rfl⟩
  have hls' : l < s.heap.objs.size := Heap.lt_size (N _ hm).1
  have hlL : l ≠ L := (N _ hm).2.1
  refine wpAny_pyIter_list hls ?_
  have up : ∀ b o, s.heap.get? b = some o → (s.heap.push { cls := .type "list_iterator", data := .fields #[.ref l, .int 0 0] }).get? b = some o := fun b o e => Heap.get?_push_of_some _ e
  have W := KTurns.ofWalks (target := .Name y pos) (Walks.list (prog := prog) (w := w) hh s.heap.objs.size l (Nat.ne_of_lt hls') vs.toArray) fun i v s Q E st q => letGo_listiter st.1 q
  refine ⟨_, _, _, _, _, _, _, news, J, rfl, W, fun _ _ _ st hQ => wpAny_pyIter_listiter st.1 hQ, by simpa using hz, ⟨⟨_, Heap.get?_push_size _ rfl, rfl, rfl⟩, hls.push _⟩, fun b hb => ?_, F.keeps up, N.grown up, fun hm => ?_, fun b hb => ?_, fun p hp hI => ?_, hj, ?_, ?_⟩
  · show b < (s.heap.push _).objs.size
    rw [Heap.size_push]
    rcases List.mem_cons.mp hb with rfl | hb
    · exact Nat.lt_succ_self _
    · rw [List.mem_singleton.mp hb]; exact Nat.lt_succ_of_lt hls'
  · rcases List.mem_cons.mp hm with e | hm
    · exact absurd F.ns.lt (e ▸ Nat.lt_irrefl _)
    · exact hlL (List.mem_singleton.mp hm).symm
  · rw [List.mem_singleton.mp hb]; exact next_is_new F
  · exact absurd (Heap.lt_size (N p hp).1) ((List.mem_singleton.mp hI) ▸ Nat.lt_irrefl _)
  · intro i v ys m₁ news₁ h₁ tk₁ own C oC D E' hin hP hJ offN offO hCD hCL hfp hC₀ hoC F₁ N₁
    exact turn i v ys news₁ h₁ tk₁ own C oC D m₁ E' (by simpa using hP) hJ offN offO hCD hCL hfp hC₀ hoC F₁ N₁
  · intro D h tk ys news' F' N' off' hJ
    exact done D h tk ys news' F' N' (fun p hp => (off' p hp).2) (by simpa using hJ)
theorem asg1 {a : PySem.Str} {pa : Pos} {v : Value} {m : PySem.Str → Option Value} {Q : Unit → Shared → Prop}
    (ha : env.kindOf a = some .local) (hp : (env.scope.kind == .class || (env.scope.kind == .module && env.locals != env.globals)) = false) (hn : s.heap.Ns env.locals m)
    (h : ∀ (h' : Heap) (tk : Nat), h'.Ns env.locals (fun q => if q = a then some v else m q) → (∀ c o, c ≠ env.locals → s.heap.get? c = some o → h'.get? c = some o) → Q () { s with heap := h', toks := tk }) :
    wpAny (model prog w) A (assign (.Name a pa) env v) Q E s :=
  wpAny_assign_Name (wpAny_storeName_local ha hn (fun h₂ hn₂ hs₂ => h h₂ _ hn₂ fun c o hc e => hs₂.extBut c o hc e) hp)
end
end
section
noncomputable def WordJ (ws : List PySem.Str) (i : Nat) (ys : List Value) (nx : Led) : Prop := ys.length = i ∧ ∀ (j : Nat) (v : Value), ys[j]? = some v → ∃ (T : Addr) (n : Nat) (t u : Tok) (wd : PySem.Str), ws[j]? = some wd ∧ v = .ref T ∧ (T, tupObj [.str (S "word") t, .str wd u] n) ∈ nx
section
open PyProof.Rows.LCg
theorem word_end {h₀ : Heap} {L : Addr} {m : PySem.Str → Option Value} {s₁ : Shared} {own news₁ rest : Led} {C D T : Addr} {wr fp : List Addr} {ys : List Value} {ws : List PySem.Str} {h' : Heap} {tk i : Nat} {oC : Obj} {m₂ : PySem.Str → Option Value} {wd : PySem.Str}
    {t u : Tok} {n : Nat} {R1 : Prop} (l1 : C < T ∧ D < T ∧ R1) (F : Fr h₀ L h' m)
    (N : News h₀ L h' ((T, tupObj [.str (S "word") t, .str wd u] n) :: (C, oC) :: (D, lst ys) :: rest)) (hr : own ++ news₁ = rest)
    (hC : NsObj oC m₂) (hfp : ∀ b ∈ fp, b < D) (hw : ∀ b ∈ wr, b ∈ fp) (off : ∀ p ∈ news₁, p.1 ∉ wr ∧ p.1 ≠ C ∧ p.1 ≠ D) (hJ : WordJ ws i ys news₁) (hws : ws[i]? = some wd) :
    TurnEnd h₀ L m s₁ own C D wr ys (WordJ ws (i + 1)) (.ref T) { s₁ with heap := h', toks := tk } := by
  subst hr
  refine TurnEnd.walk [(T, tupObj [.str (S "word") t, .str wd u] n)] F N hC hfp hw off (fun p hp => hp) (fun p hp => ?_) ⟨?_, fun j v e => ?_⟩
  · rcases List.mem_cons.mp hp with rfl | hp
    · exact ⟨l1.1, l1.2.1⟩
    · cases hp
  · rw [List.length_append, hJ.1]; rfl
  · rw [List.getElem?_append] at e
    split at e
    · obtain ⟨T', n', t', u', wd', e1, e2, e3⟩ := hJ.2 j v e
      exact ⟨T', n', t', u', wd', e1, e2, List.mem_append_right _ e3⟩
    · have hl := hJ.1
      have hj : j = i := by
        have := (List.getElem?_eq_some_iff.mp e).1
        simp only [List.length_singleton] at this
        omega
      subst hj
      rw [hl, Nat.sub_self] at e
      cases e
      exact ⟨T, n, t, u, wd, hws, rfl, .head _⟩
end
theorem WordJ.pairs {ws : List PySem.Str} {ys : List Value} {nx : Led} {n : Nat} (hJ : WordJ ws n ys nx) (hn : n = ws.length) (hs : n ≤ 1000) : PairsAre nx ys (ws.map fun x => (S "word", x)) := by
  refine ⟨by rw [hJ.1, hn, List.length_map], by rw [hJ.1]; exact hs, fun i v e => ?_⟩
  obtain ⟨T, n, t, u, wd, e1, e2, e3⟩ := hJ.2 i v e
  exact ⟨T, n, t, u, _, _, by rw [List.getElem?_map, e1]; rfl, e2, e3⟩
theorem sv_at {l : List (PySem.Str × Tok)} {ts : List PySem.Str} (e : l.map (·.1) = ts) (i : Nat) (v : Value) (h : (strValues l)[i]? = some v) : ∃ wd u, ts[i]? = some wd ∧ v = .str wd u := by
  subst e
  unfold strValues at h
  rw [List.getElem?_map] at h ⊢
  cases e : l[i]? with
  | none => rw [e] at h; cases h
  | some p => rw [e] at h; cases h; exact ⟨p.1, p.2, rfl, rfl⟩
theorem sp_len (sp : Sp) : sp.text.length + 2 ≤ sizeLine := by cases sp <;> exact Nat.le_of_ble_eq_true (by decide)
theorem sp_split (sp : Sp) : (Txt.split sp.text (S " ")).map (fun x => (S "word", x)) = sp.words := by cases sp <;> decide +kernel
theorem sp_ne (sp : Sp) : (sp.text != S "") = true := by cases sp <;> decide
section
open PyProof.Rows.LCg
variable {w : World} {A₀ : Around} {Q E : Value → Shared → Prop} {s : Shared} {h₀ base : Heap} {L : Addr} {m mg mb : PySem.Str → Option Value} {hot news cold cold' all rest : Led} {p : Program} {loose : List PySem.Str} {mean : ExcName → Option Value}
  {dp un : Nat} {gd : Option (List Code)} {cn : PySem.Str} {cs : Scope} {a : Addr} {ccd : Value} {cl : List (PySem.Str × Addr)} {outer : List Env}
theorem words_ct {t : Tok} {x : PySem.Str} {ws : List (PySem.Str × PySem.Str)} (hx : x.length + 2 ≤ sizeLine) (hne : (x != S "") = true) (hsp : (Txt.split x (S " ")).map (fun x => (S "word", x)) = ws) (hws : ws.length ≤ 1000)
    (B : Below A₀ base outer h₀) (F : Fr h₀ L s.heap m) (X : (Mine.heap w.params).In h₀) (N : News h₀ L s.heap news) (T : Top p loose mean mg mb h₀) (hk : cs.kind = .function)
    (hd : dp + 15 < recursionLimit) (hu : un + 120 < cLine)
    (ret : ∀ D vs n extras h' tk', Fr h₀ L h' m → News h₀ L h' ((D, listOf vs.toArray n) :: (extras ++ news)) → PairsAre extras vs ws → Off news ((D, listOf vs.toArray n) :: extras) → Q (.ref D) { s with heap := h', toks := tk' }) :
    wpAny (model PySem.Challenge.rw_pb0257_01.row.prog w) (ktrTop dp un gd cn cs L a ccd cl outer) (call (.ref 324) [.str x t]) Q E s := by
  revert X
  k_fill
  w_on
  intro X
  refine' ct_enter (hot := []) (news := news) (cold := [])
    (Post := fun tl r => ∃ D vs n extras, r = .ref D ∧ tl = (D, listOf vs.toArray n) :: extras ∧ PairsAre extras vs ws)
    [(S "text", .str x t)] B F X N (fun _ _ _ hp => nomatch hp) (fun _ hq => nomatch hq) (fun _ _ _ hp => nomatch hp) T hk ?ret ?ho ?hcd ?hroom ?hbind ?hloc ?c1 ?c2 ?c3 ?c4 ?_
  case ret =>
    rintro r tl h' tk' F' N' O' ⟨D, vs, n, extras, rfl, rfl, e2⟩
    exact ret D vs n extras h' tk' F' N' e2 fun q hq => O' q (List.mem_append_left _ hq)
  case ho => k_is
  case hcd => k_is
  case hroom => k_room
  case hbind => exact BindsTo.of_eq rfl
  case hloc => exact locs rfl
  case c1 => exact rfl
  case c2 => exact rfl
  case c3 => exact rfl
  case c4 => decide
  clear ret N
  intro g' L' h' FG' F' N' hC' B' X' T'
  try dsimp only
  k_fold
  repeat' (first | (k_unfold; (try dsimp only)) | (k_end; first | kc_close | wrow_close) | ((with_reducible show wpAny _ _ (eval (PySem.Expr.ListComp _ _ _ _) _) _ _ _); k_here; k_dflt (refine' ListComp_turns (by k_asm) (by with_unfolding_all rfl) (by decide) (by rfl) (by decide) ?_ (by intro _; rfl))) | ((fail_if_success (with_reducible show wpAny _ _ (call (Value.builtin "str.split") _) _ _ _)); walk1) | ((fail_if_success (with_reducible show wpAny _ _ (call (Value.builtin "str.split") _) _ _ _)); dsimp only; (fail_if_success (with_reducible show wpAny _ _ (call (Value.builtin "str.split") _) _ _ _)); walk1) | ((fail_if_success (with_reducible show wpAny _ _ (call (Value.builtin "str.split") _) _ _ _)); leave1; walk_say "STEP leave1"; try dsimp only) | fail "no step")
  dsimp only
  refine KSpl.split1 (by k_asm) (by k_asm) (by decide) ?_ hx
  intro D0 l h1 k1 e1 a1 F1 N1 l1
  try dsimp only
  have hsv : ∀ (i : Nat) (v : Value), (strValues l)[i]? = some v → ∃ wd u, (Txt.split x (S " "))[i]? = some wd ∧ v = .str wd u := sv_at e1
  have hlen : (strValues l).length = (Txt.split x (S " ")).length := by rw [← e1, List.length_map]; exact List.length_map _
  have hl2 : (Txt.split x (S " ")).length ≤ 1000 := by rw [← hsp, List.length_map] at hws; exact hws
  refine comp_list (l := D0) (vs := strValues l) (nl := 0) (WordJ (Txt.split x (S " "))) (by exact rfl) (.head _) (Nat.le_trans (by rw [hlen]; exact hl2) (Nat.le_of_ble_eq_true rfl)) F1 N1 ⟨rfl, fun j v e => by cases e⟩ ?turn ?done
  case turn =>
    intro i v ys news₁ h₁ tk₁ own C oC D m₁ E' hv hJ offN offO hCD hCL hfp hC₀ hoC F₁ N₁
    obtain ⟨wd, u, hw, rfl⟩ := hsv i v hv
    refine asg1 rfl rfl (hoC.ns (N₁ _ (List.mem_append_right _ List.mem_cons_self)).1) fun h2 tk2 hn2 hk2 => ?_
    obtain ⟨m₂, e1, hn3⟩ : ∃ m₂, m₂ (S "word") = some (.str wd u) ∧ h2.Ns C m₂ := ⟨_, rfl, hn2⟩
    obtain ⟨F2, oC2, hoC2, N2⟩ := turn_after F₁ N₁ hCD hCL hC₀ (fun p hp => (offO p hp).2.1) (fun p hp => (offN p hp).2.1) hk2 hn3
    generalize hr : own ++ news₁ = rest at N2
    clear hn2 hn3 hoC F₁ N₁ hk2 F1 N1
    try dsimp only
    k_steps
    exact word_end (by assumption) (by assumption) (by assumption) hr hoC2 hfp (fun b hb => List.mem_cons.mpr (.inl (List.mem_singleton.mp hb))) offN hJ hw
  case done =>
    intro D h tk ys news' F2 N2 offD hJ
    clear F1 N1
    try dsimp only
    k_steps
    exact EndR.sub ((D, lst ys) :: news') (by assumption) (by assumption) (fun q hq => hq) ⟨D, ys, ys.length, news', rfl, rfl, hsp ▸ hJ.pairs hlen (by rw [hlen]; exact hl2)⟩
end
end
section
noncomputable abbrev Tk := PySem.Str × PySem.Str
noncomputable abbrev CW : Tk := (S "word", S "CONTINUE")
noncomputable def Sp.able : Sp → List Key
  | .ssier => [.size]
  | .sonsier => [.size]
  | .snosier => [.nsize]
  | .snoonsier => [.nsize]
  | .saten => [.done]
  | .sen => [.done]
  | .snoaten => [.ndone]
  | .snoen => [.ndone]
  | .sin => [.inv]
  | .sinke => [.inv]
  | .snoin => [.ninv]
  | .snoinke => [.ninv]
  | .sov => [.over, .fault]
  | .sonov => [.over, .fault]
  | .snoov => [.nover]
  | .snoonov => [.nover]
  | .sex => [.fault]
  | .sonex => [.fault]
  | .snoex => [.nfault]
  | .snoonex => [.nfault]
  | .sco => []
noncomputable def toksOf : List (Sp × Nat) → List Tk
  | [] => [(S "sign", S ".")]
  | (sp, c) :: r => sp.words ++ (List.replicate c CW ++ toksOf r)
noncomputable def ahd : List Tk → (Nat → PySem.Str → Bool) → Nat → PySem.Str → Bool
  | [], V => V
  | (kd, wd) :: r, V => fun i x => match i with
    | 0 => kd == S "word" && wd == x
    | i + 1 => ahd r V i x
theorem ahd_eq (l t : List Tk) : (fun i x => wordAt (l ++ t) i x) = ahd l (fun i x => wordAt t i x) := by
  induction l with
  | nil => rfl
  | cons a r ih =>
    obtain ⟨kd, wd⟩ := a
    funext i x
    cases i with
    | zero => rfl
    | succ i => exact congrFun (congrFun ih i) x
noncomputable def isCo (t : Tk) : Bool := t.1 == S "word" && t.2 == S "CONTINUE"
theorem open_row (sp : Sp) (h : sp ≠ .sco) (k : Key) (V : Nat → PySem.Str → Bool) (hV : V 0 (S "KEY") = false) : openLen (ahd sp.words V) k = if takes sp.able k = true then sp.words.length else 0 := by
  cases sp <;> first
    | exact absurd rfl h
    | (cases k <;> first
      | rfl
      | (show (if V 0 (S "KEY") = true then _ else _) = _; rw [hV]; rfl)
      | fail "here")
theorem open_end (k : Key) : openLen (fun i x => wordAt [(S "sign", S ".")] i x) k = 0 := by
  cases k <;> rfl
theorem words_pos (sp : Sp) : 0 < sp.words.length := by cases sp <;> decide
theorem words_len (sp : Sp) : sp.words.length ≤ 4 := by cases sp <;> decide
theorem words_no (sp : Sp) (h : sp ≠ .sco) : ∀ t ∈ sp.words, isCo t = false := by
  cases sp <;> first
    | exact absurd rfl h
    | decide
theorem words_nokey (sp : Sp) (t : List Tk) : wordAt (sp.words ++ t) 0 (S "KEY") = false := by
  cases sp <;> rfl
theorem toks_nokey (c : Nat) (rows : List (Sp × Nat)) : wordAt (List.replicate c CW ++ toksOf rows) 0 (S "KEY") = false := by
  cases c with
  | succ c => rfl
  | zero =>
    cases rows with
    | nil => rfl
    | cons a r => obtain ⟨sp, c⟩ := a; exact words_nokey sp _
noncomputable def RowsOk (rows : List (Sp × Nat)) : Prop := ∀ r ∈ rows, r.1 ≠ .sco ∧ r.2 ≤ 3
theorem toks_head {rows : List (Sp × Nat)} (h : RowsOk rows) : (toksOf rows).takeWhile isCo = [] := by
  cases rows with
  | nil => rfl
  | cons a r =>
    obtain ⟨sp, c⟩ := a
    have h1 := words_no sp (h (sp, c) List.mem_cons_self).1
    show (sp.words ++ _).takeWhile isCo = []
    have h2 := words_pos sp
    cases e : sp.words with
    | nil => rw [e] at h2; cases h2
    | cons t u => rw [e] at h1; rw [List.cons_append, List.takeWhile_cons, h1 t List.mem_cons_self]; rfl
theorem run_co {c : Nat} {rows : List (Sp × Nat)} (h : RowsOk rows) : (List.replicate c CW ++ toksOf rows).takeWhile isCo = List.replicate c CW := by
  induction c with
  | zero => exact toks_head h
  | succ c ih =>
    rw [List.replicate_succ, List.cons_append, List.takeWhile_cons, if_pos (by decide), ih]
theorem cont_toks {ws : List Tk} {pz c : Nat} {rows : List (Sp × Nat)} (h : RowsOk rows) (e : ws.drop pz = List.replicate c CW ++ toksOf rows) : cont ws pz = c := by
  show ((ws.drop pz).takeWhile isCo).length = c
  rw [e, run_co h, List.length_replicate]
theorem run_no {l : List Tk} {t : List Tk} (h : ∀ x ∈ l, isCo x = false) (hl : l ≠ []) : (l ++ t).takeWhile isCo = [] := by
  cases l with
  | nil => exact absurd rfl hl
  | cons a r => rw [List.cons_append, List.takeWhile_cons, h a List.mem_cons_self]; rfl
theorem runs_le : ∀ (rows : List (Sp × Nat)), RowsOk rows → ∀ pz, (((toksOf rows).drop pz).takeWhile isCo).length ≤ 3
  | [], _, pz => by
    cases pz with
    | zero => decide
    | succ n => show ((([] : List Tk).drop n).takeWhile isCo).length ≤ 3; rw [List.drop_nil]; exact Nat.zero_le _
  | (sp, c) :: r, h, pz => by
    have hr : RowsOk r := fun x hx => h x (List.mem_cons_of_mem _ hx)
    have h0 := h (sp, c) List.mem_cons_self
    show (((sp.words ++ (List.replicate c CW ++ toksOf r)).drop pz).takeWhile isCo).length ≤ 3
    rw [List.drop_append]
    by_cases h1 : pz < sp.words.length
    · rw [Nat.sub_eq_zero_of_le (Nat.le_of_lt h1), List.drop_zero, run_no (fun x hx => words_no sp h0.1 x (List.mem_of_mem_drop hx)) (fun e => by
        have := congrArg List.length e
        rw [List.length_drop] at this
        simp only [List.length_nil] at this
        omega)]
      exact Nat.zero_le _
    · rw [List.drop_eq_nil_of_le (by omega), List.nil_append, List.drop_append, List.length_replicate, List.drop_replicate]
      by_cases h2 : pz - sp.words.length < c
      · rw [Nat.sub_eq_zero_of_le (Nat.le_of_lt h2), List.drop_zero, run_co hr, List.length_replicate]
        have := h0.2
        dsimp only at this
        omega
      · rw [show c - (pz - sp.words.length) = 0 by omega]
        exact runs_le r hr _
theorem cont_le {rows : List (Sp × Nat)} (h : RowsOk rows) (pz : Nat) : cont (toksOf rows) pz ≤ 3 := runs_le rows h pz
theorem toks_pos (rows : List (Sp × Nat)) : 0 < (toksOf rows).length := by
  cases rows with
  | nil => exact Nat.zero_lt_one
  | cons a r =>
    obtain ⟨sp, c⟩ := a
    show 0 < (sp.words ++ _).length
    have := words_pos sp
    rw [List.length_append]; omega
theorem toks_last : ∀ (rows : List (Sp × Nat)), ∃ l : List Tk, toksOf rows = l ++ [(S "sign", S ".")]
  | [] => ⟨[], rfl⟩
  | (sp, c) :: r => by
    obtain ⟨l, e⟩ := toks_last r
    refine ⟨sp.words ++ (List.replicate c CW ++ l), ?_⟩
    show sp.words ++ (List.replicate c CW ++ toksOf r) = _
    rw [e]; simp only [List.append_assoc]
theorem toks_hl (rows : List (Sp × Nat)) : ∀ i x, wordAt (toksOf rows) i x = true → i + 1 < (toksOf rows).length := by
  obtain ⟨l, e⟩ := toks_last rows
  rw [e]
  intro i x h
  have h1 := wordAt_lt h
  rw [List.length_append, List.length_singleton] at h1 ⊢
  by_cases h2 : i = l.length
  · subst h2
    unfold wordAt at h
    rw [List.getElem?_append_right (Nat.le_refl _), Nat.sub_self] at h
    exact absurd h (by simp only [List.getElem?_cons_zero, show ((S "sign" : PySem.Str) == S "word") = false by decide, Bool.false_and]; decide)
  · omega
noncomputable def offs : List (Sp × Nat) → Nat → Nat
  | (sp, c) :: r, i + 1 => sp.words.length + c + offs r i
  | _, _ => 0
noncomputable def psOf (rows : List (Sp × Nat)) : List (List Key × Nat) := rows.map fun r => (r.1.able, r.2)
theorem opn_drop (ws : List Tk) (pz : Nat) (k : Key) : opn ws pz k = openLen (fun i x => wordAt (ws.drop pz) i x) k := by
  unfold opn
  congr 1
  funext i x
  unfold wordAt
  rw [List.getElem?_drop]
theorem drop_offs : ∀ (rows : List (Sp × Nat)) (i : Nat), i ≤ rows.length → (toksOf rows).drop (offs rows i) = toksOf (rows.drop i)
  | _, 0, _ => by cases ‹List (Sp × Nat)› with | nil => rfl | cons a r => rfl
  | [], i + 1, h => absurd h (by simp)
  | (sp, c) :: r, i + 1, h => by
    have ih := drop_offs r i (by simpa using h)
    show (sp.words ++ (List.replicate c CW ++ toksOf r)).drop (sp.words.length + c + offs r i) = toksOf (r.drop i)
    rw [List.drop_append, List.drop_eq_nil_of_le (by omega), List.nil_append, List.drop_append, List.drop_eq_nil_of_le (by rw [List.length_replicate]; omega), List.nil_append, List.length_replicate, ← ih]
    congr 1
    omega
theorem offs_succ : ∀ (rows : List (Sp × Nat)) (i : Nat) (sp : Sp) (c : Nat), rows[i]? = some (sp, c) → offs rows (i + 1) = offs rows i + sp.words.length + c
  | [], i, _, _, h => by simp at h
  | (sp', c') :: r, 0, sp, c, h => by
    simp only [List.getElem?_cons_zero, Option.some.injEq, Prod.mk.injEq] at h
    obtain ⟨rfl, rfl⟩ := h
    show sp'.words.length + c' + offs r 0 = 0 + sp'.words.length + c'
    have : offs r 0 = 0 := by cases r with | nil => rfl | cons a b => rfl
    omega
  | (sp', c') :: r, i + 1, sp, c, h => by
    have ih := offs_succ r i sp c (by simpa using h)
    show sp'.words.length + c' + offs r (i + 1) = sp'.words.length + c' + offs r i + sp.words.length + c
    omega
noncomputable def RelO (rows : List (Sp × Nat)) : Out → Due → Prop
  | .ok pz bs, .ok pl bs' => pz = offs rows pl ∧ pl ≤ rows.length ∧ bs = bs'
  | .odd pz, .odd pl => ∃ r, rows[pl]? = some r ∧ pz = offs rows pl + r.1.words.length
  | _, _ => False
theorem rel_step {rows : List (Sp × Nat)} (hr : RowsOk rows) {o : Out} {d : Due} (h : RelO rows o d) (k : Key) : RelO rows (stepK (toksOf rows) o k) (dueStep (psOf rows) d k) := by
  cases o with
  | odd pz =>
    cases d with
    | odd pl => exact h
    | ok pl bs => exact h.elim
  | ok pz bs =>
    cases d with
    | odd pl => exact h.elim
    | ok pl bs' =>
      obtain ⟨rfl, hpl, rfl⟩ := h
      have hd := drop_offs rows pl hpl
      have hps : (psOf rows)[pl]? = (rows[pl]?).map fun r => (r.1.able, r.2) := List.getElem?_map ..
      unfold stepK dueStep
      dsimp only
      rw [hps, opn_drop, hd]
      cases e : rows[pl]? with
      | none =>
        rw [List.drop_eq_nil_of_le (List.getElem?_eq_none_iff.mp e)]
        have ho : openLen (fun i x => wordAt (toksOf []) i x) k = 0 := open_end k
        rw [ho, if_pos rfl]
        exact ⟨rfl, hpl, rfl⟩
      | some r =>
        obtain ⟨sp, c⟩ := r
        have hlt := (List.getElem?_eq_some_iff.mp e).1
        have hmem : (sp, c) ∈ rows := List.mem_of_getElem? e
        have hok := hr _ hmem
        have hdr : rows.drop pl = (sp, c) :: rows.drop (pl + 1) := by
          rw [List.drop_eq_getElem_cons hlt]
          congr 1
          exact (List.getElem?_eq_some_iff.mp e).2
        have hro : RowsOk (rows.drop (pl + 1)) := fun x hx => hr x (List.mem_of_mem_drop hx)
        rw [hdr]
        have ho : openLen (fun i x => wordAt (toksOf ((sp, c) :: rows.drop (pl + 1))) i x) k = if takes sp.able k = true then sp.words.length else 0 := by
          show openLen (fun i x => wordAt (sp.words ++ (List.replicate c CW ++ toksOf (rows.drop (pl + 1)))) i x) k = _
          rw [ahd_eq, open_row sp hok.1 k _ (toks_nokey c _)]
        rw [ho]
        show RelO rows _ (if takes sp.able k = true then _ else _)
        have hwp := words_pos sp
        by_cases ht : takes sp.able k = true
        · simp only [if_pos ht]
          rw [if_neg (by omega)]
          have hdw : (toksOf rows).drop (offs rows pl + sp.words.length) = List.replicate c CW ++ toksOf (rows.drop (pl + 1)) := by
            rw [← List.drop_drop, hd, hdr]
            exact List.drop_left
          rw [cont_toks hro hdw]
          by_cases hc : c = 0
          · rw [if_pos hc, if_pos hc]
            exact ⟨(sp, c), e, rfl⟩
          · rw [if_neg hc, if_neg hc]
            exact ⟨(offs_succ rows pl sp c e).symm, hlt, rfl⟩
        · simp only [if_neg ht, if_true]
          exact ⟨rfl, hpl, rfl⟩
theorem law_plain {rows : List (Sp × Nat)} (hr : RowsOk rows) (ks : List Key) : RelO rows (ks.foldl (stepK (toksOf rows)) (.ok 0 [])) (ks.foldl (dueStep (psOf rows)) (.ok 0 [])) := by
  have : ∀ (o : Out) (d : Due), RelO rows o d → RelO rows (ks.foldl (stepK (toksOf rows)) o) (ks.foldl (dueStep (psOf rows)) d) := by
    induction ks with
    | nil => exact fun _ _ h => h
    | cons k r ih => exact fun o d h => ih _ _ (rel_step hr h k)
  refine this _ _ ⟨?_, Nat.zero_le _, rfl⟩
  cases rows with
  | nil => rfl
  | cons a b => rfl
end
section
theorem PairsAre.nil {c : Led} : PairsAre c [] [] := ⟨rfl, Nat.zero_le _, fun i v h => by cases h⟩
theorem PairsAre.cons {c : Led} {vs : List Value} {ws : List (PySem.Str × PySem.Str)} {T : Addr} {n : Nat} {t u : Tok} {kd wd : PySem.Str} (h : (T, tupObj [.str kd t, .str wd u] n) ∈ c) (hz : vs.length < 1000) (r : PairsAre c vs ws) : PairsAre c (.ref T :: vs) ((kd, wd) :: ws) := by
  refine ⟨congrArg (· + 1) r.len, hz, fun i v e => ?_⟩
  cases i with
  | zero => cases e; exact ⟨T, n, t, u, kd, wd, rfl, rfl, h⟩
  | succ i => exact r.get i v e
theorem led_ne {h₀ h : Heap} {L a b : Addr} {oa ob : Obj} {l : Led} (N : News h₀ L h l) (ha : (a, oa) ∈ l) (hb : (b, ob) ∈ l) (hc : oa.cls ≠ ob.cls) : a ≠ b := fun e => by
  subst e
  have h1 := (N _ ha).1
  have h2 := (N _ hb).1
  rw [h1] at h2
  cases h2
  exact hc rfl
theorem off_tup {h₀ h : Heap} {L B : Addr} {l r : Led} {o : Obj} (N : News h₀ L h l) (hB : (B, o) ∈ l) (hs : ∀ q ∈ r, q ∈ l) (ht : AllTup r) (hc : o.cls ≠ .type "tuple") : OffA r B := fun q hq e =>
  led_ne N (hs q hq) hB (by rw [ht q hq]; exact Ne.symm hc) e
section
variable {prog : Program} {w : World} {A : Around} {E : Value → Shared → Prop} {s : Shared} {Q : Value → Shared → Prop} {h₀ : Heap} {L a b l B : Addr} {m : PySem.Str → Option Value} {all news rest : Led} {xs ys items vs : List Value} {v : Value} {na nb n c : Nat} {u : Tok}
theorem l_add (F : Fr h₀ L s.heap m) (N : News h₀ L s.heap news) (ha : (a, listOf xs.toArray na) ∈ news) (hb : (b, listOf ys.toArray nb) ∈ news) (hz : xs.length + ys.length ≤ 16384)
    (h : ∀ D h', Fr h₀ L h' m → News h₀ L h' ((D, listOf (xs ++ ys).toArray 0) :: news) → (∀ p ∈ news, p.1 < D) → Q (.ref D) { s with heap := h' }) : wpAny (model prog w) A (binaryOp .Add (.ref a) (.ref b)) Q E s := by
  refine add_arrays F N ⟨_, (N _ ha).1, rfl, _, rfl⟩ ⟨_, (N _ hb).1, rfl, _, rfl⟩ (fun h' F' N' => h _ h' F' N' fun p hp => Heap.lt_size (N p hp).1) ?_
  simp only [List.size_toArray]
  exact Nat.le_trans hz (Nat.le_of_ble_eq_true rfl)
theorem l_mul (F : Fr h₀ L s.heap m) (N : News h₀ L s.heap news) (ha : (a, listOf xs.toArray na) ∈ news) (hc : c ≤ 3) (hz : xs.length ≤ 4)
    (h : ∀ D h', Fr h₀ L h' m → News h₀ L h' ((D, listOf (List.replicate c xs).flatten.toArray 0) :: news) → (∀ p ∈ news, p.1 < D) → Q (.ref D) { s with heap := h' }) : wpAny (model prog w) A (binaryOp .Mult (.ref a) (.int (c : Int) u)) Q E s :=
  KMa.mul F N ⟨_, (N _ ha).1, rfl, _, rfl⟩ (by omega) (by omega) (by rw [Int.toNat_natCast]; exact Nat.le_trans (Nat.mul_le_mul hz hc) (by decide)) (by rw [Int.toNat_natCast]) h
theorem l_len (N : News h₀ L s.heap news) (ha : (a, listOf xs.toArray na) ∈ news) (hz : xs.length ≤ 16384) (h : Q (.int (xs.length : Int) (s.toks + 1)) { s with toks := s.toks + 1 + 1 }) : wpAny (model prog w) A (call (.builtin "len") [.ref a]) Q E s :=
  len_list ⟨_, (N _ ha).1, rfl, _, rfl⟩ (by simp; omega) (by simpa using h)
theorem l_append (F : Fr h₀ L s.heap m) (N : News h₀ L s.heap all) (P : Pick (B, listOf items.toArray n) all rest) (hn : OffA rest B) (hz : items.length ≤ 16384)
    (h : ∀ h', Fr h₀ L h' m → News h₀ L h' ((B, listOf (items ++ [v]).toArray (n + 1)) :: rest) → Q .none { s with heap := h' }) : wpAny (model prog w) A (call (.builtin "list.append") [.ref B, v]) Q E s :=
  append_in (own := []) F (P.news N) (fun _ hp => nomatch hp) hn h (by rw [sizeLine_eq]; omega)
end
structure RowsAre (cold : Led) (vs : List Value) (rows : List (Sp × Nat)) : Prop where
  len : vs.length = rows.length
  small : vs.length ≤ 100
  get : ∀ (i : Nat) (v : Value), vs[i]? = some v → ∃ (T A : Addr) (avs : List Value) (n1 n2 : Nat) (t u : Tok) (sp : Sp) (c : Nat), rows[i]? = some (sp, c) ∧ v = .ref T ∧ (T, tupObj [.ref A, .str sp.text t, .int (c : Int) u] n1) ∈ cold ∧ (A, listOf avs.toArray n2) ∈ cold ∧ KeysAre avs sp.able ∧ c ≤ 3 ∧ sp ≠ .sco
theorem RowsAre.ok {cold : Led} {vs : List Value} {rows : List (Sp × Nat)} (h : RowsAre cold vs rows) : RowsOk rows := fun r hr => by
  obtain ⟨i, hi⟩ := List.getElem?_of_mem hr
  obtain ⟨v, hv⟩ : ∃ v, vs[i]? = some v := ⟨_, List.getElem?_eq_getElem (by have := (List.getElem?_eq_some_iff.mp hi).1; rw [h.len]; exact this)⟩
  obtain ⟨T, A, avs, n1, n2, t, u, sp, c, e, _, _, _, _, hc, hs⟩ := h.get i v hv
  rw [hi] at e; cases e
  exact ⟨hs, hc⟩
/-- the tokens of the first i rows -/
noncomputable def pre : List (Sp × Nat) → List Tk
  | [] => []
  | (sp, c) :: r => sp.words ++ (List.replicate c CW ++ pre r)
theorem pre_len : ∀ (rows : List (Sp × Nat)) (i : Nat), i ≤ rows.length → (pre (rows.take i)).length = offs rows i
  | _, 0, _ => by cases ‹List (Sp × Nat)› with | nil => rfl | cons a r => rfl
  | [], i + 1, h => absurd h (by simp)
  | (sp, c) :: r, i + 1, h => by
    have ih := pre_len r i (by simpa using h)
    show (sp.words ++ (List.replicate c CW ++ pre (r.take i))).length = sp.words.length + c + offs r i
    rw [List.length_append, List.length_append, List.length_replicate, ih]; omega
theorem pre_snoc : ∀ (l : List (Sp × Nat)) (sp : Sp) (c : Nat), pre (l ++ [(sp, c)]) = pre l ++ sp.words ++ List.replicate c CW
  | [], sp, c => by show sp.words ++ (List.replicate c CW ++ []) = _; rw [List.append_nil]; rfl
  | (sp', c') :: r, sp, c => by
    show sp'.words ++ (List.replicate c' CW ++ pre (r ++ [(sp, c)])) = sp'.words ++ (List.replicate c' CW ++ pre r) ++ sp.words ++ List.replicate c CW
    rw [pre_snoc r sp c]; simp only [List.append_assoc]
theorem pre_toks : ∀ rows : List (Sp × Nat), toksOf rows = pre rows ++ [(S "sign", S ".")]
  | [] => rfl
  | (sp, c) :: r => by
    show sp.words ++ (List.replicate c CW ++ toksOf r) = sp.words ++ (List.replicate c CW ++ pre r) ++ _
    rw [pre_toks r]; simp only [List.append_assoc]
theorem pre_take_succ {rows : List (Sp × Nat)} {i : Nat} {sp : Sp} {c : Nat} (h : rows[i]? = some (sp, c)) : pre (rows.take (i + 1)) = pre (rows.take i) ++ sp.words ++ List.replicate c CW := by
  rw [List.take_add_one, h]
  exact pre_snoc _ _ _
theorem offs_le : ∀ (rows : List (Sp × Nat)), RowsOk rows → ∀ i, i ≤ rows.length → offs rows i ≤ 7 * i
  | _, _, 0, _ => by cases ‹List (Sp × Nat)› with | nil => exact Nat.zero_le _ | cons a r => exact Nat.zero_le _
  | [], _, i + 1, h => absurd h (by simp)
  | (sp, c) :: r, hr, i + 1, h => by
    have ih := offs_le r (fun x hx => hr x (List.mem_cons_of_mem _ hx)) i (by simpa using h)
    have h1 := words_len sp
    have h2 := (hr (sp, c) List.mem_cons_self).2
    dsimp only at h2
    show sp.words.length + c + offs r i ≤ 7 * (i + 1)
    omega
theorem PairsAre.mono {l l' : Led} {vs : List Value} {ws : List (PySem.Str × PySem.Str)} (h : PairsAre l vs ws) (hs : ∀ q ∈ l, q ∈ l') : PairsAre l' vs ws :=
  ⟨h.len, h.small, fun i v e => by obtain ⟨T, n, t, u, kd, wd, a, b, c⟩ := h.get i v e; exact ⟨T, n, t, u, kd, wd, a, b, hs _ c⟩⟩
theorem PairsAre.app {l : Led} {vs vs' : List Value} {ws ws' : List (PySem.Str × PySem.Str)} (h : PairsAre l vs ws) (h' : PairsAre l vs' ws') (hz : vs.length + vs'.length ≤ 1000) : PairsAre l (vs ++ vs') (ws ++ ws') := by
  refine ⟨by rw [List.length_append, List.length_append, h.len, h'.len], by rw [List.length_append]; exact hz, fun i v e => ?_⟩
  have hl := h.len
  rw [List.getElem?_append] at e ⊢
  rw [← hl]
  split at e
  · rename_i hi; rw [if_pos hi]; exact h.get i v e
  · rename_i hi; rw [if_neg hi]; exact h'.get _ v e
theorem PairsAre.rep {l : Led} {vs : List Value} {c : Nat} (h : PairsAre l vs [CW]) (hc : c ≤ 3) : PairsAre l (List.replicate c vs).flatten (List.replicate c CW) := by
  have hl := h.len
  obtain ⟨v, rfl⟩ : ∃ v, vs = [v] := by
    cases vs with
    | nil => cases hl
    | cons a r => cases r with | nil => exact ⟨a, rfl⟩ | cons b r => cases hl
  obtain ⟨T, n, t, u, kd, wd, a, b, hm⟩ := h.get 0 v rfl
  have e : (List.replicate c [v]).flatten = List.replicate c v := by
    rw [List.flatten_replicate_singleton]
  rw [e]
  refine ⟨by rw [List.length_replicate, List.length_replicate], by rw [List.length_replicate]; omega, fun i v' e => ?_⟩
  rw [List.getElem?_replicate] at e ⊢
  split at e
  · rename_i hi; cases e; rw [if_pos hi]; cases a; exact ⟨T, n, t, u, _, _, rfl, b, hm⟩
  · cases e
theorem PhAre.mono {c c' : Led} {vs : List Value} {ps : List (List Key × Nat)} (h : PhAre c vs ps) (hs : ∀ q ∈ c, q ∈ c') : PhAre c' vs ps :=
  ⟨h.len, h.small, fun i v e => by obtain ⟨T, A, avs, n1, n2, t, able, k, e1, e2, e3, e4, e5, e6⟩ := h.get i v e; exact ⟨T, A, avs, n1, n2, t, able, k, e1, e2, hs _ e3, hs _ e4, e5, e6⟩⟩
end
section
theorem fr_after {h₀ h₁ h' : Heap} {L : Addr} {m m' : PySem.Str → Option Value} {l : Led} (F : Fr h₀ L h₁ m) (N : News h₀ L h₁ l) (hn : h'.Ns L m') (hk : ∀ c o, c ≠ L → h₁.get? c = some o → h'.get? c = some o) : Fr h₀ L h' m' ∧ News h₀ L h' l := by
  have hL₀ : h₀.get? L = none := Heap.get?_none_of_le F.above
  exact ⟨⟨hn, fun b o e => hk b o (fun q => by rw [q, hL₀] at e; cases e) (F.keep b o e), F.above⟩, fun q hq => ⟨hk _ _ (N q hq).2.1 (N q hq).1, (N q hq).2⟩⟩
noncomputable def BegAre (rows : List (Sp × Nat)) (k : Nat) (vs : List Value) : Prop := vs.length = k ∧ ∀ (j : Nat) (v : Value), vs[j]? = some v → ∃ t : Tok, v = .int ((offs rows j : Nat) : Int) t
noncomputable def BehAre (rows : List (Sp × Nat)) (k : Nat) (vs : List Value) : Prop := vs.length = k ∧ ∀ (j : Nat) (v : Value), vs[j]? = some v → ∃ (r : Sp × Nat) (t : Tok), rows[j]? = some r ∧ v = .int ((offs rows j + r.1.words.length : Nat) : Int) t
theorem BegAre.snoc {rows : List (Sp × Nat)} {k : Nat} {vs : List Value} {x : Int} {t : Tok} (h : BegAre rows k vs) (hx : x = ((offs rows k : Nat) : Int)) : BegAre rows (k + 1) (vs ++ [.int x t]) := by
  subst hx
  refine ⟨by rw [List.length_append, h.1]; rfl, fun j v e => ?_⟩
  rw [List.getElem?_append] at e
  split at e
  · exact h.2 j v e
  · have hj : j = k := by
      have := (List.getElem?_eq_some_iff.mp e).1
      have := h.1
      simp only [List.length_singleton] at *
      omega
    subst hj
    rw [h.1, Nat.sub_self] at e
    cases e
    exact ⟨t, rfl⟩
theorem BehAre.snoc {rows : List (Sp × Nat)} {k : Nat} {vs : List Value} {x : Int} {t : Tok} {r : Sp × Nat} (h : BehAre rows k vs) (hr : rows[k]? = some r) (hx : x = ((offs rows k + r.1.words.length : Nat) : Int)) : BehAre rows (k + 1) (vs ++ [.int x t]) := by
  subst hx
  refine ⟨by rw [List.length_append, h.1]; rfl, fun j v e => ?_⟩
  rw [List.getElem?_append] at e
  split at e
  · exact h.2 j v e
  · have hj : j = k := by
      have := (List.getElem?_eq_some_iff.mp e).1
      have := h.1
      simp only [List.length_singleton] at *
      omega
    subst hj
    rw [h.1, Nat.sub_self] at e
    cases e
    exact ⟨r, t, hr, rfl⟩
structure RightS (rows : List (Sp × Nat)) (Tl Bl Hl : Addr) (i : Nat) (nx : Led) : Prop where
  is : ∃ (bvs : List Value) (nb : Nat) (hvs : List Value) (nh : Nat) (tvs : List Value) (nt : Nat) (extras : Led), (Tl, listOf tvs.toArray nt) ∈ nx ∧ (Bl, listOf bvs.toArray nb) ∈ nx ∧ (Hl, listOf hvs.toArray nh) ∈ nx ∧ (∀ q ∈ extras, q ∈ nx) ∧
    PairsAre extras tvs (pre (rows.take i)) ∧ BegAre rows i bvs ∧ BehAre rows i hvs ∧ Bl ≠ Hl ∧ Bl ≠ Tl ∧ Hl ≠ Tl ∧ OffA extras Bl ∧ OffA extras Hl
noncomputable def rmap (u : PySem.Str → Option Value) (Tl Bl Hl Rl Kt : Addr) : PySem.Str → Option Value := fun z => if ([S "able", S "spelling", S "many"] : List PySem.Str).contains z then u z else if z = S "tokens" then some (Value.ref Tl) else if z = S "begins" then some (Value.ref Bl) else if z = S "behinds" then some (Value.ref Hl) else List.lookup z [(S "rows", Value.ref Rl), (S "keys", Value.ref Kt)].reverse
noncomputable def RightJ (rows : List (Sp × Nat)) (Rl Kt Bl Hl : Addr) (i : Nat) (mm : PySem.Str → Option Value) (nx : Led) : Prop := ∃ (u : PySem.Str → Option Value) (Tl : Addr), mm = rmap u Tl Bl Hl Rl Kt ∧ RightS rows Tl Bl Hl i nx
theorem mix1 {g h : Heap} {L W Bl I Tl Hl : Addr} {oW oB oI oT oH : Obj} {exw extras : Led} (N : News g L h ((W, oW) :: (exw ++ ((Bl, oB) :: (I, oI) :: (Tl, oT) :: (Hl, oH) :: extras)))) : News g L h ((W, oW) :: (Bl, oB) :: (I, oI) :: (Tl, oT) :: (Hl, oH) :: (exw ++ extras)) := fun q hq => N q (by
  simp only [List.mem_cons, List.mem_append] at hq ⊢
  rcases hq with hq | hq | hq | hq | hq | hq | hq
  · exact .inl hq
  · exact .inr (.inr (.inl hq))
  · exact .inr (.inr (.inr (.inl hq)))
  · exact .inr (.inr (.inr (.inr (.inl hq))))
  · exact .inr (.inr (.inr (.inr (.inr (.inl hq)))))
  · exact .inr (.inl hq)
  · exact .inr (.inr (.inr (.inr (.inr (.inr hq))))))
theorem mix2 {g h : Heap} {L W Bl I Tl Hl : Addr} {oW oB oI oT oH : Obj} {exw extras : Led} (N : News g L h ((W, oW) :: (exw ++ ((Hl, oH) :: (Tl, oT) :: (Bl, oB) :: (I, oI) :: extras)))) : News g L h ((W, oW) :: (Hl, oH) :: (Tl, oT) :: (Bl, oB) :: (I, oI) :: (exw ++ extras)) := mix1 N
theorem OffA.app {a b : Led} {x : Addr} (h : OffA a x) (h' : OffA b x) : OffA (a ++ b) x := fun q hq => (List.mem_append.mp hq).elim (h q) (h' q)
theorem off_of {news tl : Led} {B : Addr} {o : Obj} (h : Off news tl) (hB : (B, o) ∈ news) : OffA tl B := fun q hq e => h _ hB q hq e.symm
theorem OffA.sub {a b : Led} {x : Addr} (h : OffA b x) (hs : ∀ q ∈ a, q ∈ b) : OffA a x := fun q hq => h q (hs q hq)
theorem rst_ne {z : PySem.Str} (hz : ([S "able", S "spelling", S "many"] : List PySem.Str).contains z = false) : z ≠ S "able" ∧ z ≠ S "spelling" ∧ z ≠ S "many" := by
  refine ⟨fun e => ?_, fun e => ?_, fun e => ?_⟩ <;> (subst e; revert hz; decide)
theorem rmap_turn {u : PySem.Str → Option Value} {Tl D1 D2 Bl Hl Rl Kt : Addr} {x1 x2 x3 : Option Value} : (fun y => if y = S "tokens" then some (Value.ref D2) else if y = S "tokens" then some (Value.ref D1) else if y = S "many" then x1 else if y = S "spelling" then x2 else if y = S "able" then x3 else rmap u Tl Bl Hl Rl Kt y) =
    rmap (fun y => if y = S "tokens" then some (Value.ref D2) else if y = S "tokens" then some (Value.ref D1) else if y = S "many" then x1 else if y = S "spelling" then x2 else if y = S "able" then x3 else rmap u Tl Bl Hl Rl Kt y) D2 Bl Hl Rl Kt := by
  funext z
  conv => rhs; unfold rmap
  cases e : ([S "able", S "spelling", S "many"] : List PySem.Str).contains z with
  | true => rw [if_pos (rfl : true = true)]; rfl
  | false =>
    obtain ⟨h1, h2, h3⟩ := rst_ne e
    rw [if_neg Bool.false_ne_true]
    by_cases ht : z = S "tokens"
    · rw [if_pos ht, if_pos ht]
    · rw [if_neg ht, if_neg ht, if_neg ht, if_neg h3, if_neg h2, if_neg h1]
      unfold rmap
      rw [e, if_neg Bool.false_ne_true, if_neg ht]
theorem right_end {g h : Heap} {L I Tl D1 D2 M1 W3 Bl Hl Rl Kt : Addr} {it oM oW o1 : Obj} {s : Shared} {u : PySem.Str → Option Value} {x1 x2 x3 : Option Value} {rows : List (Sp × Nat)} {i nb nh n2 tk : Nat} {xs bvs hvs : List Value} {ex : Led}
    (F : Fr g L h fun y => if y = S "tokens" then some (Value.ref D2) else if y = S "tokens" then some (Value.ref D1) else if y = S "many" then x1 else if y = S "spelling" then x2 else if y = S "able" then x3 else rmap u Tl Bl Hl Rl Kt y)
    (N : News g L h ((D2, listOf xs.toArray n2) :: (M1, oM) :: (W3, oW) :: (Hl, listOf hvs.toArray nh) :: (D1, o1) :: (Bl, listOf bvs.toArray nb) :: (I, it) :: ex))
    (hP : PairsAre ex xs (pre (rows.take (i + 1)))) (hb : BegAre rows (i + 1) bvs) (hh : BehAre rows (i + 1) hvs) (n1 : Bl ≠ Hl) (oB : OffA ex Bl) (oH : OffA ex Hl) (oI : OffA ex I) (hIB : I ≠ Bl) (hIH : I ≠ Hl)
    (d1 : D2 ≠ I) (d2 : D2 ≠ Bl) (d3 : D2 ≠ Hl) : UnrEnd g L s I it (RightJ rows Rl Kt Bl Hl (i + 1)) { s with heap := h, toks := tk } := by
  refine UnrEnd.intro F N ((D2, listOf xs.toArray n2) :: (Bl, listOf bvs.toArray nb) :: (Hl, listOf hvs.toArray nh) :: ex) (fun q hq => ?_) (fun q hq => ?_) ⟨_, D2, rmap_turn, ⟨bvs, nb, hvs, nh, xs, n2, ex, .head _, .tail _ (.head _), .tail _ (.tail _ (.head _)), fun q hq => .tail _ (.tail _ (.tail _ hq)), hP, hb, hh, n1, Ne.symm d2, Ne.symm d3, oB, oH⟩⟩
  · simp only [List.mem_cons] at hq ⊢
    rcases hq with hq | hq | hq | hq | hq
    · exact .inr (.inr (.inr (.inr (.inr (.inr (.inl hq))))))
    · exact .inl hq
    · exact .inr (.inr (.inr (.inr (.inr (.inl hq)))))
    · exact .inr (.inr (.inr (.inl hq)))
    · exact .inr (.inr (.inr (.inr (.inr (.inr (.inr hq))))))
  · rcases List.mem_cons.mp hq with rfl | hq
    · exact d1
    rcases List.mem_cons.mp hq with rfl | hq
    · exact Ne.symm hIB
    rcases List.mem_cons.mp hq with rfl | hq
    · exact Ne.symm hIH
    · exact oI q hq
noncomputable def PhJ (keep cold : Led) (rows : List (Sp × Nat)) (i : Nat) (ys : List Value) (nx : Led) : Prop := (ys.length = i ∧ ∀ q ∈ keep, q ∈ nx) ∧ ∀ (j : Nat) (v : Value), ys[j]? = some v → ∃ (T A : Addr) (avs : List Value) (n1 n2 : Nat) (t : Tok) (sp : Sp) (c : Nat), rows[j]? = some (sp, c) ∧ v = .ref T ∧ (T, tupObj [.ref A, .int (c : Int) t] n1) ∈ nx ∧ (A, listOf avs.toArray n2) ∈ cold ∧ KeysAre avs sp.able ∧ c ≤ 3
section
open PyProof.Rows.LCg
theorem ph_end {h₀ : Heap} {L : Addr} {m : PySem.Str → Option Value} {s₁ : Shared} {own news₁ rest keep cold : Led} {C D T Ax : Addr} {wr fp : List Addr} {ys avs : List Value} {rows : List (Sp × Nat)} {h' : Heap} {tk i c k2 : Nat} {oC : Obj} {m₂ : PySem.Str → Option Value} {sp : Sp}
    {u : Tok} {n : Nat} {R1 : Prop} (l1 : C < T ∧ D < T ∧ R1) (F : Fr h₀ L h' m)
    (N : News h₀ L h' ((T, tupObj [.ref Ax, .int (c : Int) u] n) :: (C, oC) :: (D, lst ys) :: rest)) (hr : own ++ news₁ = rest)
    (hC : NsObj oC m₂) (hfp : ∀ b ∈ fp, b < D) (hw : ∀ b ∈ wr, b ∈ fp) (off : ∀ p ∈ news₁, p.1 ∉ wr ∧ p.1 ≠ C ∧ p.1 ≠ D) (hJ : PhJ keep cold rows i ys news₁) (hrow : rows[i]? = some (sp, c)) (hA : (Ax, listOf avs.toArray k2) ∈ cold) (hk : KeysAre avs sp.able) (hc : c ≤ 3) :
    TurnEnd h₀ L m s₁ own C D wr ys (PhJ keep cold rows (i + 1)) (.ref T) { s₁ with heap := h', toks := tk } := by
  subst hr
  refine TurnEnd.walk [(T, tupObj [.ref Ax, .int (c : Int) u] n)] F N hC hfp hw off (fun p hp => hp) (fun p hp => ?_) ⟨⟨?_, fun q hq => List.mem_append_right _ (hJ.1.2 q hq)⟩, fun j v e => ?_⟩
  · rcases List.mem_cons.mp hp with rfl | hp
    · exact ⟨l1.1, l1.2.1⟩
    · cases hp
  · rw [List.length_append, hJ.1.1]; rfl
  · rw [List.getElem?_append] at e
    split at e
    · obtain ⟨T', A', a', n', n2', t', sp', c', e1, e2, e3, e4⟩ := hJ.2 j v e
      exact ⟨T', A', a', n', n2', t', sp', c', e1, e2, List.mem_append_right _ e3, e4⟩
    · have hl := hJ.1.1
      have hj : j = i := by
        have := (List.getElem?_eq_some_iff.mp e).1
        simp only [List.length_singleton] at this
        omega
      subst hj
      rw [hl, Nat.sub_self] at e
      cases e
      exact ⟨T, Ax, avs, n, k2, u, sp, c, hrow, rfl, .head _, hA, hk, hc⟩
end
theorem PhJ.are {keep cold nx : Led} {rows : List (Sp × Nat)} {ys : List Value} {n : Nat} (hJ : PhJ keep cold rows n ys nx) (hn : n = rows.length) (hs : n ≤ 100) : PhAre (nx ++ cold) ys (psOf rows) := by
  refine ⟨by rw [hJ.1.1, hn]; exact (List.length_map _).symm, by rw [hJ.1.1]; exact hs, fun i v e => ?_⟩
  obtain ⟨T, A, avs, n1, n2, t, sp, c, e1, e2, e3, e4, e5, e6⟩ := hJ.2 i v e
  exact ⟨T, A, avs, n1, n2, t, sp.able, c, by unfold psOf; rw [List.getElem?_map, e1]; rfl, e2, List.mem_append_left _ e3, List.mem_append_right _ e4, e5, e6⟩
theorem mix3 {g h : Heap} {L D B2 Bl Tl Hl : Addr} {oD o2 oB oT oH : Obj} {exd extras : Led} (N : News g L h ((D, oD) :: (B2, o2) :: (exd ++ ((Bl, oB) :: (Tl, oT) :: (Hl, oH) :: extras)))) : News g L h ((D, oD) :: (B2, o2) :: (Bl, oB) :: (Tl, oT) :: (Hl, oH) :: (exd ++ extras)) := fun q hq => N q (by
  simp only [List.mem_cons, List.mem_append] at hq ⊢
  rcases hq with hq | hq | hq | hq | hq | hq | hq
  · exact .inl hq
  · exact .inr (.inl hq)
  · exact .inr (.inr (.inr (.inl hq)))
  · exact .inr (.inr (.inr (.inr (.inl hq))))
  · exact .inr (.inr (.inr (.inr (.inr (.inl hq)))))
  · exact .inr (.inr (.inl hq))
  · exact .inr (.inr (.inr (.inr (.inr (.inr hq))))))
theorem toks_all {g h : Heap} {L TT SL ST D B2 Bl Tl Hl : Addr} {oS oD o2 oB oT oH : Obj} {extras ex cold : Led} {tvs : List Value} {rows : List (Sp × Nat)} {n k : Nat} {t u : Tok} (hP : PairsAre extras tvs (pre rows)) (sE : ∀ q ∈ extras, q ∈ ex) (hz : tvs.length ≤ 700)
    (N : News g L h ((TT, listOf (tvs ++ [Value.ref ST]).toArray n) :: (SL, oS) :: (ST, tupObj [.str (S "sign") t, .str (S ".") u] k) :: (D, oD) :: (B2, o2) :: (Bl, oB) :: (Tl, oT) :: (Hl, oH) :: ex)) :
    ∃ all, News g L h all ∧ PairsAre (all ++ cold) (tvs ++ [Value.ref ST]) (toksOf rows) ∧ (TT, listOf (tvs ++ [Value.ref ST]).toArray n) ∈ all ∧ ∀ q ∈ (B2, o2) :: (Bl, oB) :: (Hl, oH) :: ex, q ∈ all := by
  refine ⟨_, N, ?_, .head _, fun q hq => ?_⟩
  · rw [pre_toks]
    refine (hP.mono fun q hq => List.mem_append_left cold (.tail _ (.tail _ (.tail _ (.tail _ (.tail _ (.tail _ (.tail _ (.tail _ (sE q hq)))))))))).app (PairsAre.cons (List.mem_append_left _ (.tail _ (.tail _ (.head _)))) (Nat.le_of_ble_eq_true rfl) PairsAre.nil) ?_
    simp only [List.length_singleton]; omega
  · simp only [List.mem_cons] at hq ⊢
    rcases hq with hq | hq | hq | hq
    · exact .inr (.inr (.inr (.inr (.inl hq))))
    · exact .inr (.inr (.inr (.inr (.inr (.inl hq)))))
    · exact .inr (.inr (.inr (.inr (.inr (.inr (.inr (.inl hq)))))))
    · exact .inr (.inr (.inr (.inr (.inr (.inr (.inr (.inr hq)))))))
theorem rel_ok {rows : List (Sp × Nat)} (hr : RowsOk rows) {ks : List Key} {pe : Nat} {bs : List (Key × Nat)} (h : ks.foldl (stepK (toksOf rows)) (.ok 0 []) = .ok pe bs) : ∃ pl, ks.foldl (dueStep (psOf rows)) (.ok 0 []) = .ok pl bs ∧ pe = offs rows pl ∧ pl ≤ rows.length := by
  have := law_plain hr ks
  rw [h] at this
  cases e : ks.foldl (dueStep (psOf rows)) (.ok 0 []) with
  | ok pl bs' => rw [e] at this; obtain ⟨h1, h2, rfl⟩ := this; exact ⟨pl, rfl, h1, h2⟩
  | odd pl => rw [e] at this; exact this.elim
theorem rel_odd {rows : List (Sp × Nat)} (hr : RowsOk rows) {ks : List Key} {pe : Nat} (h : ks.foldl (stepK (toksOf rows)) (.ok 0 []) = .odd pe) : ∃ pl r, ks.foldl (dueStep (psOf rows)) (.ok 0 []) = .odd pl ∧ rows[pl]? = some r ∧ pe = offs rows pl + r.1.words.length := by
  have := law_plain hr ks
  rw [h] at this
  cases e : ks.foldl (dueStep (psOf rows)) (.ok 0 []) with
  | ok pl bs' => rw [e] at this; exact this.elim
  | odd pl => rw [e] at this; obtain ⟨r, h1, h2⟩ := this; exact ⟨pl, r, rfl, h1, h2⟩
noncomputable def datOf (kb : Key × Nat) : Dat := .tuple [.str kb.1.str, .tuple (List.replicate kb.2 (.tuple [.str (S "continue")]))]
theorem dat_rep {l : Led} {v : Value} {d : Dat} (h : DatIn l v d) : ∀ n, DatAll l (List.replicate n v) (List.replicate n d)
  | 0 => .nil
  | n + 1 => .cons h (dat_rep h n)
theorem br_dat {l : Led} {vs : List Value} {bs : List (Key × Nat)} (h : BrAll l vs bs) : DatAll l vs (bs.map datOf) := by
  induction h with
  | nil => exact .nil
  | cons a _ ih =>
    obtain ⟨a, b, q, n, n1, n2, t, t', rfl, m1, m2, m3⟩ := a
    exact .cons (.tuple m1 (.cons (.str _ _) (.cons (.tuple m2 (dat_rep (.tuple m3 (.cons (.str _ _) .nil)) _)) .nil))) ih
theorem key_ok (k : Key) : PyData.strOk k.str = true := by cases k <;> decide +kernel
theorem dat_ok (kb : Key × Nat) : kqdOk 7 (datOf kb) = true := by
  unfold datOf
  simp only [kqdOk, List.all_cons, List.all_nil, Bool.and_true, key_ok, Bool.true_and, List.all_replicate, show PyData.strOk (S "continue") = true by decide +kernel]
  split <;> rfl
section
variable {prog : Program} {w : World} {A : Around} {E : Value → Shared → Prop} {s : Shared} {Q : Value → Shared → Prop} {h₀ : Heap} {L a b : Addr} {l : Led} {xs ys : List Value} {bs : List (Key × Nat)} {na nb : Nat}
theorem br_eq (N : News h₀ L s.heap l) (ma : (a, tupObj xs na) ∈ l) (mb : (b, tupObj ys nb) ∈ l) (hx : BrAll l xs bs) (hy : BrAll l ys bs) (hu : A.units + 64 < cLine) (h : Q (.bool true) s) : wpAny (model prog w) A (compareOp .Eq (.ref a) (.ref b)) Q E s := by
  have hk : ∀ d ∈ bs.map datOf, kqdOk 7 d = true := fun d hd => by obtain ⟨kb, _, rfl⟩ := List.mem_map.mp hd; exact dat_ok kb
  have hk8 : kqdOk 8 (.tuple (bs.map datOf)) = true := by rw [kqdOk]; exact List.all_eq_true.mpr hk
  obtain ⟨as, ra⟩ := kqd_in N 8 (.tuple ma (br_dat hx)) hk8
  obtain ⟨cs, rb⟩ := kqd_in N 8 (.tuple mb (br_dat hy)) hk8
  have la := kqd_lay 8 _ hk8
  have e : PyData.eqv (kqdP (.tuple (bs.map datOf))) (kqdP (.tuple (bs.map datOf))) = true := (kqd_eqv 8 _ _ 8 hk8 hk8).mpr rfl
  have sh : PySem.SeqAt.shaped (kqdP (.tuple (bs.map datOf))) = true := by
    unfold PySem.SeqAt.shaped; rw [la.1, Bool.true_and]; exact decide_eq_true (Nat.le_trans la.2 (by decide))
  exact eq_dataH ra rb sh sh hu (by rw [e]; exact h)
theorem l_item {value slice : PySem.Expr} {k : Int} {u : Tok} {v : Value} (N : News h₀ L s.heap l) (ha : (a, listOf xs.toArray na) ∈ l) (h0 : 0 ≤ k) (hz : xs.length ≤ 16384) (hv : xs[k.toNat]? = some v) (h : Q v s)
    (hs : subscripted slice false (.ref a) (.int k u) = operate [.ref a, .int k u] (getItem (.ref a) (.int k u)) := by with_unfolding_all rfl) :
    wpAny (model prog w) A (subscriptTail value slice (.ref a) (.int k u)) Q E s :=
  have hl := (List.getElem?_eq_some_iff.mp hv).1
  item_litK ⟨_, (N _ ha).1, rfl, _, rfl⟩ h0 (by omega) hv h hs
end
end
section
section
variable {M : Model} {A A1 : Around} {E : Value → Shared → Prop} {s : Shared} {base g hc : Heap} {env : Env} {outer : List Env} {L' dR e : Addr} {m' : PySem.Str → Option Value} {l : Led} {o : Obj} {ln : Nat} {Q : Unit → Shared → Prop}
theorem note_next {L T : Addr} {oe oT : Obj} {vs ts : Array Value}
    (hfr : A.frames = some (env :: outer)) (hl : s.heap.FunFrames base (env :: outer)) (hf : env.frame = some L)
    (he : s.heap.get? e = some oe) (hd : oe.data = .fields vs) (h1 : vs[1]? = some (.ref T)) (hTe : T ≠ e) (hT : s.heap.get? T = some oT) (hdT : oT.data = .fields ts) (h3 : ts[3]? = some .none)
    (h : ∀ h₀ h', (∀ b o, s.heap.get? b = some o → b ≠ T → h₀.get? b = some o) → Noted (frs (env :: outer)) e oe h₀ h' → h₀.objs.size = s.heap.objs.size → Q () { s with heap := h' }) :
    wpAny M A (noteFrame (.ref e) env) (fun _ s' => wpAny M A (setFlight (.ref e) none) Q E s') E s := by
  unfold noteFrame
  simp only [hf]
  refine wpAny_bind (wpAny_field he hd h1 ?_)
  rw [if_pos (show (Value.ref T != Value.none) = true from by simp)]
  refine wpAny_bind (wpAny_field hT hdT h3 ?_)
  rw [if_neg (show ¬ ((Value.none == rawInt L) = true) from by simp [rawInt])]
  refine wpAny_bind (wpAny_setField hT hdT (Array.getElem?_eq_some_iff.mp h3).1 ?_)
  have other : ∀ b, b ≠ T → (s.heap.update T (Obj.mapFields (·.setIfInBounds 3 Value.none))).get? b = s.heap.get? b := fun b hb => Heap.get?_update_other _ _ (Ne.symm hb)
  have noRecord : ∀ b o, s.heap.get? b = some o → (∀ vs, o.data ≠ .fields vs) → b ≠ T := fun b o hb hnf q => by
    rw [q, hT] at hb; injection hb with hb; subst hb; exact hnf ts hdT
  refine entry_noted hfr (hl.of_keeps fun b o hb hnf => ⟨o, (other b (noRecord b o hb hnf)).trans hb, rfl⟩) hf ((other e (Ne.symm hTe)).trans he) hd (Array.getElem?_eq_some_iff.mp h1).1 fun h' hN => ?_
  exact h _ h' (fun b o hb hbT => (other b hbT).trans hb) hN (Heap.size_update _ _ _)
theorem fr_none (F : Fr g L' hc m') : g.get? L' = none := by
  cases q : g.get? L' with
  | none => rfl
  | some o => exact absurd (Nat.lt_of_lt_of_le (Heap.lt_size q) F.above) (Nat.lt_irrefl _)
theorem frs_off (B : Below A1 base outer g) (F : Fr g L' hc m') (N : News g L' hc l) (hf : env.frame = some L') {q : Addr × Obj} (hq : q ∈ l) : q.1 ∉ frs (env :: outer) := fun hm => by
  rcases frs_cons hf hm with e2 | e2
  · exact (N q hq).2.1 e2
  · obtain ⟨o', ho', _⟩ := (B.frames.mem e2).2
    rw [(N q hq).2.2] at ho'; cases ho'
/-- a fault is noted in the frame that will catch it -/
theorem note_on (B : Below A1 base outer g) (F : Fr g L' hc m') (N : News g L' hc l) (hd : (dR, o) ∈ l) (hA : A.frames = some (env :: outer)) (hf : env.frame = some L') (hke : env.scope.kind = .function)
    (tu : Turned (frs (env :: outer)) [dR] hc s.heap) (th : Thrown hc s.heap e ln)
    (hQ : ∀ h2, Turned (frs (env :: outer)) [dR] hc h2 → Thrown hc h2 e ln → Q () { s with heap := h2 }) : wpAny M A (noteFrame (.ref e) env) (fun _ s' => wpAny M A (setFlight (.ref e) none) Q E s') E s := by
  obtain ⟨hnew, oe, vs, T, oT, ts, dx, q, k1, k2, u1, u2, u3, u4, v, n, tq, x1, x2, x3, x4, x5, x6, x7, x8, x9, x10, x11, x12, x13, x14, x15⟩ := th
  have hfr0 := (pushX B F hf hke).frames
  have frD : ∀ b ∈ frs (env :: outer), b ∉ [dR] := fun b hb hm => frs_off B F N hf hd (List.mem_singleton.mp hm ▸ hb)
  have hfr1 : s.heap.FunFrames base (env :: outer) := frames_turned hfr0 fun b hb o ho => by
    obtain ⟨sl, hs⟩ := tu.on b o ho hb (frD b hb)
    exact ⟨_, hs, rfl⟩
  refine note_next hA hfr1 hf x1 x4 x5 x7 x8 x9 x10 fun h₀ h' keep NT hsz => ?_
  have neT : ∀ b o, hc.get? b = some o → b ≠ T := fun b o hb => Nat.ne_of_lt (Nat.lt_of_lt_of_le (Heap.lt_size hb) x6)
  have nee : ∀ b o, hc.get? b = some o → b ≠ e := fun b o hb => Nat.ne_of_lt (Nat.lt_of_lt_of_le (Heap.lt_size hb) hnew)
  have frs_at : ∀ b o, s.heap.get? b = some o → (∀ ws, o.data ≠ .fields ws) → b ≠ T := fun b o hb hn q => by rw [q, x8] at hb; cases hb; exact hn _ x9
  have hts := tu.size
  refine hQ h' ⟨?_, fun b o hb hbf hd' => ?_, fun b o hb hbf hd' => ?_⟩ ⟨hnew, ?_⟩
  · have := NT.size; omega
  · exact NT.off b o (keep b o (tu.off b o hb hbf hd') (neT b o hb)) (nee b o hb) hbf
  · obtain ⟨sl, h1⟩ := tu.on b o hb hbf hd'
    obtain ⟨sl', h2⟩ := NT.on b _ (keep b _ h1 (neT b o hb)) hbf
    exact ⟨sl', h2⟩
  · obtain ⟨T', oT', ts', vs', y1, y2, y3, y4, y5, y6, y7, y8⟩ := NT.trace vs x4
    have dictN : ∀ b o, s.heap.get? b = some o → b ≠ e → (∀ ws, o.data ≠ .fields ws) → ∃ sl, h'.get? b = some { o with slots := sl } := fun b o hb hbe hn => by
      by_cases hm : b ∈ frs (env :: outer)
      · exact NT.on b o (keep b o hb (frs_at b o hb hn)) hm
      · exact ⟨o.slots, NT.off b o (keep b o hb (frs_at b o hb hn)) hbe hm⟩
    have dxe : dx ≠ e := fun q => by rw [q, x1] at x12; cases x12; cases x4
    have hqn : ∀ ws, tq.data ≠ .fields ws := fun ws hw => by rw [x15] at hw; cases hw
    have qe : q ≠ e := fun q' => by rw [q', x1] at x13; cases x13; exact hqn _ x4
    have nfr : ∀ b, hc.objs.size ≤ b → b ∉ frs (env :: outer) := fun b hb hm => by
      obtain ⟨o', ho', _⟩ := (hfr0.mem hm).2
      exact absurd (Heap.lt_size ho') (Nat.not_lt.mpr hb)
    obtain ⟨slq, hq⟩ := dictN q _ x13 qe hqn
    refine ⟨_, vs', T', oT', ts', dx, q, k1, k2, u1, u2, u3, u4, v, n, _, y3, x2, x3, rfl, y5, by omega, y2, y6, y7, y8, x11, ?_, hq, x14, x15⟩
    exact NT.off dx _ (keep dx _ x12 (frs_at dx _ x12 fun ws hw => nomatch hw)) dxe (nfr dx x11)
theorem flight_on {fs : List Addr} (tu : Turned fs [dR] hc s.heap) (th : Thrown hc s.heap e ln) (hQ : ∀ h2, Turned fs [dR] hc h2 → Thrown hc h2 e ln → Q () { s with heap := h2 }) : wpAny M A (setFlight (.ref e) none) Q E s := by
  obtain ⟨hnew, oe, vs, T, oT, ts, dx, q, k1, k2, u1, u2, u3, u4, v, n, tq, x1, x2, x3, x4, x5, x6, x7, x8, x9, x10, x11, x12, x13, x14, x15⟩ := th
  unfold setFlight
  refine wpAny_bind (wpAny_field x1 x4 x5 ?_)
  rw [if_pos (show (Value.ref T != Value.none) = true from by simp)]
  have hsz3 : 3 < ts.size := (Array.getElem?_eq_some_iff.mp x10).1
  refine wpAny_setField x8 x9 hsz3 (hQ _ ?_ ?_)
  all_goals have other : ∀ b, b ≠ T → (s.heap.update T (Obj.mapFields (·.setIfInBounds 3 ((none : Option Addr).elim Value.none fun f => rawInt f)))).get? b = s.heap.get? b := fun b hb => Heap.get?_update_other _ _ (Ne.symm hb)
  · have neT : ∀ b o, hc.get? b = some o → b ≠ T := fun b o hb => Nat.ne_of_lt (Nat.lt_of_lt_of_le (Heap.lt_size hb) x6)
    refine ⟨by rw [Heap.size_update]; exact tu.size, fun b o hb h1 h2 => (other b (neT b o hb)).trans (tu.off b o hb h1 h2), fun b o hb h1 h2 => ?_⟩
    obtain ⟨sl, hs⟩ := tu.on b o hb h1 h2
    exact ⟨sl, (other b (neT b o hb)).trans hs⟩
  · have noT : ∀ b o, s.heap.get? b = some o → (∀ ws, o.data ≠ .fields ws) → b ≠ T := fun b o hb hn q => by rw [q, x8] at hb; cases hb; exact hn _ x9
    have hd3 := Obj.data_mapFields x9 (·.setIfInBounds 3 ((none : Option Addr).elim Value.none fun f => rawInt f))
    refine ⟨hnew, oe, vs, T, _, _, dx, q, k1, k2, u1, u2, u3, u4, v, n, tq, (other e (Ne.symm x7)).trans x1, x2, x3, x4, x5, x6, x7, Heap.get?_update_self _ x8 (Obj.isFreed_of_fields hd3), hd3, ?_, x11, (other dx (noT dx _ x12 fun ws hw => nomatch hw)).trans x12, (other q (noT q _ x13 fun ws hw => by rw [x15] at hw; cases hw)).trans x13, x14, x15⟩
    simp [hsz3]
/-- the ground of a frame that catches: its base turned in the frames' slots alone -/
theorem ground_t {h : Heap} (B : Below A1 base outer g) (F : Fr g L' hc m') (N : News g L' hc l) (hd : (dR, o) ∈ l) (hf : env.frame = some L') (tu : Turned (frs (env :: outer)) [dR] hc h) :
    ∃ g₂, KtsTurn (frs outer) g g₂ ∧ Fr g₂ L' h m' ∧ ∀ q ∈ l, q.1 ≠ dR → h.get? q.1 = some q.2 ∧ q.1 ≠ L' ∧ g₂.get? q.1 = none := by
  have gD : ∀ b o, g.get? b = some o → b ∉ [dR] := fun b o hb q => by
    have := (N _ hd).2.2
    rw [show ((dR, _) : Addr × Obj).1 = dR from rfl, ← List.mem_singleton.mp q, hb] at this; cases this
  have gL : ∀ b o, g.get? b = some o → b ≠ L' := fun b o hb q => by rw [q, fr_none F] at hb; cases hb
  obtain ⟨T, S⟩ := kts_turn_at (h := h) (fs := frs outer) (g := g)
    (fun b hb => by obtain ⟨_, o, ho, _⟩ := B.frames.mem hb; exact ⟨o, ho⟩)
    (fun b o e nm => tu.off b o (F.keep b o e) (fun hm => (frs_cons hf hm).elim (gL b o e) nm) (gD b o e))
    (fun b o e hm => tu.on b o (F.keep b o e) (by obtain ⟨e', he', hfe⟩ := List.mem_filterMap.mp hm; exact List.mem_filterMap.mpr ⟨e', .tail _ he', hfe⟩) (gD b o e))
  refine ⟨_, T, ⟨?_, S, ?_⟩, fun q hq hne => ⟨tu.off _ _ (N q hq).1 (frs_off B F N hf hq) (fun hm => hne (List.mem_singleton.mp hm)), (N q hq).2.1, T.none_ _ (N q hq).2.2⟩⟩
  · obtain ⟨oL, es, ep, hL, hLd, hLk, hLf⟩ := F.ns
    obtain ⟨sl, hs⟩ := tu.on L' oL hL (List.mem_filterMap.mpr ⟨env, .head _, hf⟩) (fun hm => (N _ hd).2.1 (List.mem_singleton.mp hm).symm)
    exact ⟨_, es, ep, hs, hLd, hLk, hLf⟩
  · rw [T.size]; exact F.above
end
section
variable {w : World} {A₀ : Around} {Q E : Value → Shared → Prop} {s : Shared} {K : Frag} {h₀ base : Heap} {L : Addr} {m mg mb : PySem.Str → Option Value} {hot news cold : Led} {p : Program} {loose : List PySem.Str} {mean : ExcName → Option Value}
  {dp un : Nat} {gd : Option (List Code)} {cn : PySem.Str} {cs : Scope} {a : Addr} {ccd : Value} {cl : List (PySem.Str × Addr)}
/-- a call's end, where a base may have turned in its frames' slots -/
noncomputable def EndT (fs : List Addr) (g : Heap) (s : Shared) (P : Value → Prop) (r : Result) (s' : Shared) : Prop := match r with
  | .ok (.ret v) => P v ∧ ∃ h' tk g', s' = { s with heap := h', toks := tk } ∧ KtsTurn fs g g' ∧ (∀ b o, g'.get? b = some o → h'.get? b = some o)
  | _ => False
theorem ct_enterT {P : Value → Prop} {name qual : PySem.Str} {params : Arguments} {body : List Stmt} {scope : Scope} {dV kV doc pm cdv ct oc : Value} {an od : Option Addr} {osl : Array (Option Value)} {f : Addr} {vs : List Value} (binds : List (PySem.Str × Value))
    (B : Below A₀ base [] h₀) (F : Fr h₀ L s.heap m) (X₀ : (Mine.heap w.params).In h₀) (N : News h₀ L s.heap news) (hC : ColdAt s.heap cold) (T : Top p loose mean mg mb h₀) (hke : cs.kind = .function)
    (ret : ∀ r h' tk', Fr h₀ L h' m → News h₀ L h' news → P r → Q r { s with heap := h', toks := tk' })
    (ho : (Mine.heap w.params).lookup f = some ⟨oc, od, .func (fnOf name qual params body scope dV kV doc pm an cdv ct), osl⟩) (hcd : codeIn (Mine.heap w.params) cdv qual = true) (hroom : (ktrTop dp un gd cn cs L a ccd cl []).depth < recursionLimit)
    (hbind : BindsTo s (fnOf name qual params body scope dV kV doc pm an cdv ct) ⟨vs, []⟩ binds) (hloc : ∀ y ∈ binds, scope.names.lookup y.1 = some .local)
    (hco : scope.isCoroutine = false) (hgen : scope.isGenerator = false) (hk : scope.kind = .function) (hcell : ∀ x ∈ scope.names, x.2 ≠ .cell)
    (h : ∀ g L' h₁, Fr h₀ L g m → Fr g L' h₁ (fun y => binds.reverse.lookup y) → News g L' h₁ [] → ColdAt g cold → Below (ktrTop dp un gd cn cs L a ccd cl []) base (envX cn cs L a ccd cl :: []) g → (Mine.heap w.params).In g → Top p loose mean mg mb g →
      wpAny (model PySem.Challenge.rw_pb0257_01.row.prog w) ((ktrTop dp un gd cn cs L a ccd cl []).deeper (envX qual scope L' f cdv [])) (execs body (envX qual scope L' f cdv []))
        (fun fl s' => LeaveS0 (frs (envX cn cs L a ccd cl :: [])) h₀ L m g (EndT (frs (envX cn cs L a ccd cl :: [])) g s P) (match fl with | .ret v => v | _ => .none) s')
        (fun e s' => wpAny (model PySem.Challenge.rw_pb0257_01.row.prog w) ((ktrTop dp un gd cn cs L a ccd cl []).deeper (envX qual scope L' f cdv [])) (leaving (envX qual scope L' f cdv []) e) (fun _ s'' => EndT (frs (envX cn cs L a ccd cl :: [])) g s P (.error e) s'') (fun e' s'' => EndT (frs (envX cn cs L a ccd cl :: [])) g s P (.error e') s'') s')
        { s with heap := h₁, toks := s.toks + binds.length }) :
    wpAny (model PySem.Challenge.rw_pb0257_01.row.prog w) (ktrTop dp un gd cn cs L a ccd cl []) (call (.ref f) vs) Q E s := by
  obtain ⟨FG, BG, st, _⟩ := groundX (R := fun _ _ => True) (A := ktrTop dp un gd cn cs L a ccd cl []) B F (News.nil : News h₀ L s.heap []) (env := envX cn cs L a ccd cl) rfl rfl hke
  have X := X₀.keeps F.keep
  have gs : ∀ b o, s.heap.get? b = some o → (hideAll s.heap (([] : Led).map (·.1))).get? b = some o := fun b o e => hideAll_get _ e (fun hm => nomatch hm)
  refine wpAny_call (codeAny_mono (codeAny_call_def (R := fun r s' => EndT (frs (envX cn cs L a ccd cl :: [])) (hideAll s.heap (([] : Led).map (·.1))) s P r s' ∧ Fr h₀ L s'.heap m) (fd := fnX name qual params body scope [] dV kV doc pm an cdv ct) (body := body) (binds := binds) hroom (X _ _ ho) rfl (T.nolimit.keeps F.keep) (codeRec_of X hcd) rfl hbind hcell hloc (fun h₁ hns hk₁ => ?_) hco hgen hk) ?_)
  · refine wpAny_mono (h _ s.heap.objs.size h₁ FG ⟨hns, fun b o e => hk₁ b o (of_hideAll _ e), Nat.le_of_eq (hideAll_size _ _)⟩ (fun _ hq => nomatch hq) (fun q hq => gs _ _ (hC q hq)) BG (X₀.keeps st) (T.keeps st)) (fun fl s' hl => ?_) (fun e s' he => ?_)
    · obtain ⟨g', L₂, m₂, n₂, T', F', N', k⟩ := hl
      obtain ⟨oL, es, ep, hL, hLd, hLk, hLf⟩ := FG.ns
      obtain ⟨sl, hs⟩ := T'.up hL
      have hF : Fr h₀ L s'.heap m := ⟨⟨_, es, ep, F'.keep _ _ hs, hLd, hLk, hLf⟩, fun b o e => F'.keep b o (T'.other b o (st b o e) fun hm => by
        rcases frs_cons (env := envX cn cs L a ccd cl) (l := []) rfl hm with z | z
        · rw [z, fr_none F] at e; cases e
        · cases z), F.above⟩
      exact ⟨k hF (fun q hq => ⟨(N' q hq).1, fun z => (by have := (N' q hq).2.2; rw [z, hs] at this; cases this), by
        cases z : h₀.get? q.1 with
        | none => rfl
        | some o => obtain ⟨sl', hs'⟩ := T'.up (st _ _ z); have := (N' q hq).2.2; rw [hs'] at this; cases this⟩), hF⟩
    · exact wpAny_mono he (fun _ s'' z => z.elim) (fun _ s'' z => z.elim)
  · rintro r s' ⟨hr, hF⟩
    cases r with
    | error e' => exact hr.elim
    | ok f =>
      cases f with
      | ret v =>
        obtain ⟨pv, h', tk, g', rfl, T', k⟩ := hr
        refine ret v h' tk hF (fun q hq => ⟨k _ _ (T'.other _ _ (gs _ _ (N q hq).1) fun hm => ?_), (N q hq).2⟩) pv
        rcases frs_cons (env := envX cn cs L a ccd cl) (l := []) rfl hm with z | z
        · exact (N q hq).2.1 z
        · cases z
      | _ => exact hr.elim
end
section
variable {g g₂ h hc : Heap} {L' e : Addr} {m' : PySem.Str → Option Value} {ln : Nat}
theorem held_led (F : Fr g₂ L' h m') (th : Thrown hc h e ln) (hL : L' < hc.objs.size) : ∃ (oe : Obj) (dx q : Addr) (k1 k2 : Int) (u1 u2 u3 u4 : Tok) (v : Value) (n : Nat) (tq : Obj) (lx : Led), oe.cls = .ref 95 ∧ notCls oe = true ∧ oe.dict = some dx ∧
    News g₂ L' h ((e, oe) :: (dx, dictOf [⟨k1, .str (S "what") u1, v⟩, ⟨k2, .str (S "at") u2, .ref q⟩] 2) :: lx) ∧ tq.cls = .type "tuple" ∧ tq.data = .seq #[.int ((ln : Int) + 1) u3, .int 12 u4] n ∧
    ∀ h'' m'', Fr g₂ L' h'' m'' → (∀ p ∈ lx, h''.get? p.1 = some p.2) → h''.get? q = some tq := by
  obtain ⟨hnew, oe, vs, T, oT, ts, dx, q, k1, k2, u1, u2, u3, u4, v, n, tq, x1, x2, x3, x4, x5, x6, x7, x8, x9, x10, x11, x12, x13, x14, x15⟩ := th
  have hgs : g₂.objs.size ≤ hc.objs.size := Nat.le_trans F.above (Nat.le_of_lt hL)
  have fresh : ∀ a, hc.objs.size ≤ a → a ≠ L' ∧ g₂.get? a = none := fun a ha => ⟨fun z => by rw [z] at ha; exact absurd hL (Nat.not_lt.mpr ha), Heap.get?_none_of_le (Nat.le_trans hgs ha)⟩
  have no : notCls oe = true := by unfold notCls; rw [x4]
  have base : ∀ p ∈ [(e, oe), (dx, dictOf [⟨k1, .str (S "what") u1, v⟩, ⟨k2, .str (S "at") u2, .ref q⟩] 2)], h.get? p.1 = some p.2 ∧ p.1 ≠ L' ∧ g₂.get? p.1 = none := fun p hp => by
    rcases List.mem_cons.mp hp with rfl | hp
    · exact ⟨x1, fresh _ hnew⟩
    rcases List.mem_cons.mp hp with rfl | hp
    · exact ⟨x12, fresh _ x11⟩
    · cases hp
  cases hq : g₂.get? q with
  | some o =>
    have : o = tq := Option.some.inj ((F.keep _ _ hq).symm.trans x13)
    subst this
    exact ⟨oe, dx, q, k1, k2, u1, u2, u3, u4, v, n, o, [], x2, no, x3, fun p hp => base p hp, x14, x15, fun h'' m'' F'' _ => F''.keep _ _ hq⟩
  | none =>
    have qL : q ≠ L' := fun z => by
      obtain ⟨oL, es, ep, hL', hLd, _, _⟩ := F.ns
      rw [z, hL'] at x13; cases x13; rw [x15] at hLd; cases hLd
    refine ⟨oe, dx, q, k1, k2, u1, u2, u3, u4, v, n, tq, [(q, tq)], x2, no, x3, fun p hp => ?_, x14, x15, fun h'' m'' _ hl => hl _ (.head _)⟩
    rcases List.mem_cons.mp hp with rfl | hp
    · exact base _ (.head _)
    rcases List.mem_cons.mp hp with rfl | hp
    · exact base _ (.tail _ (.head _))
    · rw [List.mem_singleton.mp hp]; exact ⟨x13, qL, hq⟩
end
section
variable {prog : Program} {w : World} {A : Around} {E : Value → Shared → Prop} {s : Shared} {Q : Value → Shared → Prop} {a b : Addr} {oa ob : Obj} {x y : Int} {t1 t2 t3 t4 : Tok} {na nb : Nat}
theorem at_eq (ha : s.heap.get? a = some oa) (ca : oa.cls = .type "tuple") (da : oa.data = .seq #[.int x t1, .int 12 t2] na) (hb : s.heap.get? b = some ob) (cb : ob.cls = .type "tuple") (db : ob.data = .seq #[.int y t3, .int 12 t4] nb) (e : x = y) (hu : A.units + 64 < cLine) (h : Q (.bool true) s) :
    wpAny (model prog w) A (compareOp .Eq (.ref a) (.ref b)) Q E s := by
  subst e
  have hk : kqdOk 8 (.tuple [.int x, .int 12]) = true := rfl
  have la := kqd_lay 8 _ hk
  have e : PyData.eqv (kqdP (.tuple [.int x, .int 12])) (kqdP (.tuple [.int x, .int 12])) = true := (kqd_eqv 8 _ _ 8 hk hk).mpr rfl
  have sh : PySem.SeqAt.shaped (kqdP (.tuple [.int x, .int 12])) = true := by
    unfold PySem.SeqAt.shaped; rw [la.1, Bool.true_and]; exact decide_eq_true (Nat.le_trans la.2 (by decide))
  exact eq_dataH (reads_tuple_at ha ca da (ReadsAll.cons (Reads.int _ _) (ReadsAll.cons (Reads.int _ _) ReadsAll.nil))) (reads_tuple_at hb cb db (ReadsAll.cons (Reads.int _ _) (ReadsAll.cons (Reads.int _ _) ReadsAll.nil))) sh sh hu (by rw [show PyData.eqv (.tuple [.int x, .int 12]) (.tuple [.int x, .int 12]) = true from e]; exact h)
end
theorem leaveT_ok {fs : List Addr} {h₀ g h' : Heap} {L L' : Addr} {m m' : PySem.Str → Option Value} {l : Led} {s : Shared} {P : Value → Prop} {v : Value} {tk : Nat} (F : Fr g L' h' m') (N : News g L' h' l) (hP : P v) : LeaveS0 fs h₀ L m g (EndT fs g s P) v { s with heap := h', toks := tk } :=
  leaveS0_ F N KtsTurn.refl fun _ _ => ⟨hP, _, _, g, rfl, KtsTurn.refl, F.keep⟩
theorem leaveT_turn {fs : List Addr} {h₀ g g₂ h' : Heap} {L L' : Addr} {m m' : PySem.Str → Option Value} {l : Led} {s : Shared} {P : Value → Prop} {v : Value} {tk : Nat} (T : KtsTurn fs g g₂) (F : Fr g₂ L' h' m') (N : News g₂ L' h' l) (hP : P v) : LeaveS0 fs h₀ L m g (EndT fs g s P) v { s with heap := h', toks := tk } :=
  leaveS0_ F N T fun _ _ => ⟨hP, _, _, g₂, rfl, T, F.keep⟩
theorem endT_ok {fs : List Addr} {g h' : Heap} {L' : Addr} {m' : PySem.Str → Option Value} {s : Shared} {P : Value → Prop} {v : Value} {tk : Nat} (F : Fr g L' h' m') (hP : P v) : EndT fs g s P (.ok (.ret v)) { s with heap := h', toks := tk } :=
  ⟨hP, _, _, g, rfl, KtsTurn.refl, F.keep⟩
end
section
section
variable {prog : Program} {w : World} {A : Around} {E : Value → Shared → Prop} {s : Shared} {K : Frag} {e : Addr} {ox : Obj} {od : Option Obj} {name : PySem.Str} {expr : Bool} {Q : Value → Shared → Prop} {v : Value}
  {nm q : PySem.Str} {N : Addr} {bs bm : List Value} {hdct : Bool} {sn : List PySem.Str} {sub : List Value} {ab : Bool} {col : Option Bool} {dd : Option Addr} {k0 k1 k2 k3 k5 : Option Value} {newId : String}
theorem gf_ga_check {M : Model} {h : Heap} {g : Array GenState} {d : Drawn} {t : Nat} {os : OsState} {nameV : Value} {Q : Unit → Shared → Prop} (hC : h.get? 95 = some (excClassObj nm q 95 N bs bm hdct sn sub ab col dd k0 k1 k2 k3 k5 newId)) (hbase : bm.contains (.type "BaseException") = true)
    (hx : h.get? e = some ox) (hc : ox.cls = .ref 95) (hq : Q () ⟨h, g, d, t, os⟩) : wpAny M A (checkBuiltinCall "BaseException.__getattribute__" ⟨[.ref e, nameV], []⟩) Q E ⟨h, g, d, t, os⟩ := by
  have hk : builtinKind "BaseException.__getattribute__" = some .slot := by decide +kernel
  have hsplit : splitId "BaseException.__getattribute__" = some ("BaseException", "__getattribute__") := by decide +kernel
  have hcB : (Value.ref 95 :: bm).contains (.type "BaseException") = true := by rw [List.contains_cons, hbase, Bool.or_true]
  have ha := PySem.F.args_bexc_ga (.ref e) nameV
  simp only [checkBuiltinCall, hk, hsplit]
  refine wpAny_bind ?_
  · unfold isInstance
    repeat (first | (with_reducible refine wpAny_loadPart_at hx ?_; rw [hc]) | (with_reducible refine wpAny_isSubtype_exc hC ?_; rw [hcB]) | wp_step)
    exact hq
theorem gf_get (X : K.In s.heap) (I : InstAt s.heap e ox 95 od) (hC : s.heap.get? 95 = some (excClassObj nm q 95 N bs bm hdct sn sub ab col dd k0 k1 k2 k3 k5 newId)) (hbase : bm.contains (.type "BaseException") = true)
    (hga : findIn K (.ref 95) "__getattribute__" = some (some (.builtin "BaseException.__getattribute__"))) (hgg : findIn K (.ref 95) "__getattr__" = some none)
    (hf : findObj K 95 od name = some (.value v)) (hh : handedIn v = true) (h : Q v { s with toks := s.toks + 1 }) : wpAny (model prog w) A (getAttr (.ref e) name expr) Q E s := by
  obtain ⟨hp, g, d, t, os⟩ := s
  have L0 := I.type (M := model prog w)
  have L1 := looks_findIn (M := model prog w) X hga
  have L2 := looks_findIn (M := model prog w) X hgg
  have L3 := looks_find (M := model prog w) X I hf
  have f3 := PySem.F.attrBase_Exception.ga.bind (.ref e)
  unfold getAttr getAttrBy
  refine wpAny_bind (wpAny_mkText (wpAny_holding (wpAny_bind (L0.at (wpAny_bind (L1.at ?_))))))
  show wpAny _ _ (getAttrByItsOwn _ _ _ _ _ _) _ _ _
  unfold getAttrByItsOwn hookBefore callGetattribute boundAndCalled
  refine wpAny_bind ?_
  show wpAny _ _ (typeLookup (.ref 95) _) _ _ _
  refine L2.at ?_
  refine wpAny_bind (wpAny_attempt (wpAny_holding ?_))
  rw [show (expr && onTheHeap (Value.builtin "BaseException.__getattribute__")) = false by cases expr <;> rfl]
  rw [if_neg Bool.false_ne_true, f3]
  refine wpAny_bind (wpAny_pure (wpAny_call ?_))
  refine codeAny_call_builtin PySem.F.attrBase_Exception.ga.plain PySem.F.entry_bexc_ga (gf_ga_check hC hbase I.at_ I.cls ?_)
  show wpAny _ _ (Builtin.«object.__getattribute__» ⟨[.ref e, .str name t], []⟩) _ _ _
  unfold Builtin.«object.__getattribute__»
  refine wpAny_bind (wpAny_pure ?_)
  refine wpAny_bind (wpAny_pure (wpAny_bind (L0.at (wpAny_bind (L3.at ?_)))))
  refine wpAny_pure ?_
  show wpAny _ _ (handedOut v) _ _ _
  rw [handedOut_of hh]; exact wpAny_pure h
end
end
section
section
open PyProof.Rows.LCg
variable {w : World} {A₀ : Around} {Q E : Value → Shared → Prop} {s : Shared} {h₀ base : Heap} {L : Addr} {m mg mb : PySem.Str → Option Value} {hot news cold cold' all rest : Led} {p : Program} {loose : List PySem.Str} {mean : ExcName → Option Value}
  {dp un : Nat} {gd : Option (List Code)} {cn : PySem.Str} {cs : Scope} {a : Addr} {ccd : Value} {cl : List (PySem.Str × Addr)}
  {Rl Kt : Addr} {nk nr : Nat} {rvs kvs : List Value} {ks : List Key} {rows : List (Sp × Nat)}
theorem right_ct (B : Below A₀ base [] h₀) (F : Fr h₀ L s.heap m) (X : (Mine.heap w.params).In h₀) (N : News h₀ L s.heap news) (T : Top p loose mean mg mb h₀) (hk : cs.kind = .function)
    (hC : ColdAt s.heap cold) (hR : (Rl, listOf rvs.toArray nr) ∈ cold) (hRs : RowsAre cold rvs rows) (hK : (Kt, tupObj kvs nk) ∈ cold) (hKs : KeysAre kvs ks) (hd : dp + 30 < recursionLimit) (hu : un + 240 < cLine)
    (ret : ∀ h' tk', Fr h₀ L h' m → News h₀ L h' news → Q (.bool true) { s with heap := h', toks := tk' }) :
    wpAny (model PySem.Challenge.rw_pb0257_01.row.prog w) (ktrTop dp un gd cn cs L a ccd cl []) (call (.ref 355) [.ref Rl, .ref Kt]) Q E s := by
  revert X
  k_fill
  w_on
  intro X
  refine' ct_enterT (cold := cold) (P := fun r => r = .bool true)
    [(S "rows", .ref Rl), (S "keys", .ref Kt)] B F X N hC T hk ?ret ?ho ?hcd ?hroom ?hbind ?hloc ?c1 ?c2 ?c3 ?c4 ?_
  case ret =>
    rintro r h' tk' F' N' rfl
    exact ret h' tk' F' N'
  case ho => k_is
  case hcd => k_is
  case hroom => k_room
  case hbind => exact BindsTo.of_eq rfl
  case hloc => exact locs rfl
  case c1 => exact rfl
  case c2 => exact rfl
  case c3 => exact rfl
  case c4 => decide
  clear ret N hC
  intro g' L' h' FG' F' N' hC' B' X' T'
  try dsimp only
  k_fold
  repeat' (first | (k_unfold; (try dsimp only)) | (k_end; wrow_close) | ((fail_if_success (with_reducible show wpAny _ _ (exec (Stmt.For _ _ _ _ _) _) _ _ _)); walk1) | ((fail_if_success (with_reducible show wpAny _ _ (exec (Stmt.For _ _ _ _ _) _) _ _ _)); dsimp only; (fail_if_success (with_reducible show wpAny _ _ (exec (Stmt.For _ _ _ _ _) _) _ _ _)); walk1) | ((fail_if_success (with_reducible show wpAny _ _ (exec (Stmt.For _ _ _ _ _) _) _ _ _)); leave1; walk_say "STEP leave1"; try dsimp only) | fail "no step")
  rename_i Tl0 _ _ Bl _ l12 Hl _ l13 D1 _ l14 _ _ _ h4 kF kN
  have kN2 : News g' L' h4 [(Hl, listOf #[] 0), (Bl, listOf #[] 0), (Tl0, listOf #[] 0)] := fun q hq => kN q (List.mem_cons_of_mem _ hq)
  clear kN l14
  refine For_turns kF ?_
  repeat' (first | (k_unfold; (try dsimp only)) | (k_end; wrow_close) | ((fail_if_success (with_reducible show wpAny _ _ (pyIter (Value.ref _)) _ _ _)); walk1) | ((fail_if_success (with_reducible show wpAny _ _ (pyIter (Value.ref _)) _ _ _)); dsimp only; (fail_if_success (with_reducible show wpAny _ _ (pyIter (Value.ref _)) _ _ _)); walk1) | ((fail_if_success (with_reducible show wpAny _ _ (pyIter (Value.ref _)) _ _ _)); leave1; walk_say "STEP leave1"; try dsimp only) | fail "no step")
  refine loop_rows (l := Rl) (vs := rvs) (nl := nr) (RightJ rows Rl Kt Bl Hl) (by exact rfl) (hC' _ hR) (fun i v e => by obtain ⟨T, A, _, _, _, _, _, _, _, _, e2, _⟩ := hRs.get i v e; exact ⟨T, e2⟩) kF kN2 ?start ?turn ?done
  case start =>
    refine ⟨fun z => if z = S "tokens" then some (.ref Tl0) else if z = S "begins" then some (.ref Bl) else if z = S "behinds" then some (.ref Hl) else List.lookup z [(S "rows", Value.ref Rl), (S "keys", Value.ref Kt)].reverse, Tl0, ?_, ⟨[], 0, [], 0, [], 0, [], by simp, by simp, by simp, by simp, PairsAre.nil, ⟨rfl, fun j v e => by cases e⟩, ⟨rfl, fun j v e => by cases e⟩, Nat.ne_of_lt l13.1, Nat.ne_of_gt l12, Nat.ne_of_gt l13.2, OffA.nil, OffA.nil⟩⟩
    funext z
    exact (ite_self _).symm
  case turn =>
    clear kF kN2 l12 l13
    rintro i T0 m₁ nx I it h tk hv hit ⟨u, Tl, rfl, ⟨bvs, nb, hvs, nh, tvs, nt, extras, mT, mB, mH, mX, hP, hb, hh, n1, n2, n3, oB, oH⟩⟩ hoff F1 N1
    obtain ⟨T1, A1, avs, k1, k2, t1, t2, sp, c, hrow, e1, mT1, mA1, hAk, hc3, hsp⟩ := hRs.get i _ hv
    cases e1
    refine asg3 (by exact rfl) ⟨_, F1.keep _ _ (hC' _ mT1), rfl, _, rfl⟩ rfl rfl rfl rfl F1.ns fun h2 tk2 hn2 hk2 => ?_
    have N2 : News g' L' h ((I, it) :: (Tl, listOf tvs.toArray nt) :: (Bl, listOf bvs.toArray nb) :: (Hl, listOf hvs.toArray nh) :: extras) := fun q hq => N1 q (by
      simp only [List.mem_cons] at hq ⊢
      rcases hq with hq | rfl | rfl | rfl | hq
      · exact .inl hq
      · exact .inr mT
      · exact .inr mB
      · exact .inr mH
      · exact .inr (mX q hq))
    obtain ⟨F3, N3⟩ := fr_after F1 N2 hn2 hk2
    have hIB : I ≠ Bl := fun e => hoff _ mB e.symm
    have hIH : I ≠ Hl := fun e => hoff _ mH e.symm
    have hIX : OffA extras I := fun q hq => hoff q (mX q hq)
    clear N1 N2 hk2 hn2 mT mB mH mX hoff F1
    change Fr g' L' h2 _ at F3
    change News g' L' h2 _ at N3
    have htl : tvs.length = offs rows i := by rw [hP.len]; exact pre_len rows i (Nat.le_of_lt (by have := (List.getElem?_eq_some_iff.mp hrow).1; exact this))
    have hz1 : tvs.length ≤ 700 := by
      have h1 := offs_le rows hRs.ok i (Nat.le_of_lt (List.getElem?_eq_some_iff.mp hrow).1)
      have h2 := (List.getElem?_eq_some_iff.mp hrow).1
      have h3 := hRs.small
      have h4 := hRs.len
      omega
    have hz2 : bvs.length ≤ 100 := by
      have := hb.1
      have := (List.getElem?_eq_some_iff.mp hv).1
      have := hRs.small
      omega
    have hz3 : hvs.length ≤ 100 := by
      have := hh.1
      have := (List.getElem?_eq_some_iff.mp hv).1
      have := hRs.small
      omega
    repeat' (first | (k_unfold; (try dsimp only)) | (k_end; wrow_close) | ((fail_if_success (with_reducible show wpAny _ _ (PySem.call (Value.builtin "len") [Value.ref _]) _ _ _)); walk1) | ((fail_if_success (with_reducible show wpAny _ _ (PySem.call (Value.builtin "len") [Value.ref _]) _ _ _)); dsimp only; (fail_if_success (with_reducible show wpAny _ _ (PySem.call (Value.builtin "len") [Value.ref _]) _ _ _)); walk1) | ((fail_if_success (with_reducible show wpAny _ _ (PySem.call (Value.builtin "len") [Value.ref _]) _ _ _)); leave1; walk_say "STEP leave1"; try dsimp only) | fail "no step")
    dsimp only
    refine l_len (by k_asm) (.tail _ (.head _)) (by omega) ?_
    repeat' (first | (k_unfold; (try dsimp only)) | (k_end; wrow_close) | ((fail_if_success (with_reducible show wpAny _ _ (PySem.call (Value.builtin "list.append") [Value.ref _, _]) _ _ _)); walk1) | ((fail_if_success (with_reducible show wpAny _ _ (PySem.call (Value.builtin "list.append") [Value.ref _, _]) _ _ _)); dsimp only; (fail_if_success (with_reducible show wpAny _ _ (PySem.call (Value.builtin "list.append") [Value.ref _, _]) _ _ _)); walk1) | ((fail_if_success (with_reducible show wpAny _ _ (PySem.call (Value.builtin "list.append") [Value.ref _, _]) _ _ _)); leave1; walk_say "STEP leave1"; try dsimp only) | fail "no step")
    dsimp only
    refine l_append (B := Bl) (by k_asm) (by k_asm) (.there (.there .here)) (OffA.cons hIB (OffA.cons (Ne.symm n2) (OffA.cons (Ne.symm n1) oB))) (by omega) fun h5 F5 N5 => ?_
    try clear N3 F3
    repeat' (first | (k_unfold; (try dsimp only)) | (k_end; wrow_close) | ((fail_if_success (with_reducible show wpAny _ _ (PySem.call (Value.ref 324) _) _ _ _)); walk1) | ((fail_if_success (with_reducible show wpAny _ _ (PySem.call (Value.ref 324) _) _ _ _)); dsimp only; (fail_if_success (with_reducible show wpAny _ _ (PySem.call (Value.ref 324) _) _ _ _)); walk1) | ((fail_if_success (with_reducible show wpAny _ _ (PySem.call (Value.ref 324) _) _ _ _)); leave1; walk_say "STEP leave1"; try dsimp only) | fail "no step")
    refine' words_ct (sp_len sp) (sp_ne sp) (sp_split sp) (Nat.le_trans (words_len sp) (by decide)) ?B ?F ?X ?N ?T ?hk ?hd ?hu ?_
    case B => k_asm
    case F => k_asm
    case X => k_asm
    case N => k_asm
    case T => k_asm
    case hk => exact rfl
    case hd => ktr_room
    case hu => ktr_units
    intro W wvs wn exw h6 tk6 F6 N6 hW hoW
    have hoWB : OffA exw Bl := (off_of hoW (.head _)).sub fun q hq => .tail _ hq
    have hoWH : OffA exw Hl := (off_of hoW (.tail _ (.tail _ (.tail _ (.head _))))).sub fun q hq => .tail _ hq
    have hoWI : OffA exw I := (off_of hoW (.tail _ (.head _))).sub fun q hq => .tail _ hq
    replace N6 := mix1 N6
    have hwl : wvs.length ≤ 4 := by rw [hW.len]; exact words_len sp
    have hP2 : PairsAre (exw ++ extras) (tvs ++ wvs) (pre (rows.take i) ++ sp.words) := (hP.mono fun q hq => List.mem_append_right _ hq).app (hW.mono fun q hq => List.mem_append_left _ hq) (by omega)
    generalize hx2 : exw ++ extras = ex2 at N6 hP2
    have oB2 : OffA ex2 Bl := hx2 ▸ hoWB.app oB
    have oH2 : OffA ex2 Hl := hx2 ▸ hoWH.app oH
    have oI2 : OffA ex2 I := hx2 ▸ hoWI.app hIX
    clear hoW hoWB hoWH hoWI hx2 F5 N5 hIX oB oH hP
    repeat' (first | (k_unfold; (try dsimp only)) | (k_end; wrow_close) | ((fail_if_success (with_reducible show wpAny _ _ (binaryOp Operator.Add (Value.ref _) (Value.ref _)) _ _ _)); walk1) | ((fail_if_success (with_reducible show wpAny _ _ (binaryOp Operator.Add (Value.ref _) (Value.ref _)) _ _ _)); dsimp only; (fail_if_success (with_reducible show wpAny _ _ (binaryOp Operator.Add (Value.ref _) (Value.ref _)) _ _ _)); walk1) | ((fail_if_success (with_reducible show wpAny _ _ (binaryOp Operator.Add (Value.ref _) (Value.ref _)) _ _ _)); leave1; walk_say "STEP leave1"; try dsimp only) | fail "no step")
    dsimp only
    refine l_add (by k_asm) (by k_asm) (.tail _ (.tail _ (.tail _ (.head _)))) (.head _) (by omega) fun D1 h8 F8 N8 lD1 => ?_
    have hDB : D1 ≠ Bl := Nat.ne_of_gt (lD1 (Bl, _) (.tail _ (.head _)))
    have hDH : D1 ≠ Hl := Nat.ne_of_gt (lD1 (Hl, _) (.tail _ (.tail _ (.tail _ (.tail _ (.head _))))))
    have hDI : D1 ≠ I := Nat.ne_of_gt (lD1 (I, _) (.tail _ (.tail _ (.head _))))
    have N9 : News g' L' h8 ((D1, listOf (tvs ++ wvs).toArray 0) :: (Bl, listOf (bvs ++ [Value.int (↑tvs.length) (tk2 + 1)]).toArray (nb + 1)) :: (I, it) :: (Hl, listOf hvs.toArray nh) :: ex2) := fun q hq => N8 q (by
      simp only [List.mem_cons] at hq ⊢
      rcases hq with hq | hq | hq | hq | hq
      · exact .inl hq
      · exact .inr (.inr (.inl hq))
      · exact .inr (.inr (.inr (.inl hq)))
      · exact .inr (.inr (.inr (.inr (.inr (.inl hq)))))
      · exact .inr (.inr (.inr (.inr (.inr (.inr hq))))))
    try clear N8 N6 F6 lD1
    have hl2 : (tvs ++ wvs).length = offs rows i + sp.words.length := by rw [List.length_append, htl, hW.len]
    generalize tvs ++ wvs = tvs2 at hP2 N9 hl2
    have hz4 : tvs2.length ≤ 704 := by
      have := words_len sp
      omega
    repeat' (first | (k_unfold; (try dsimp only)) | (k_end; wrow_close) | ((fail_if_success (with_reducible show wpAny _ _ (PySem.call (Value.builtin "len") [Value.ref _]) _ _ _)); walk1) | ((fail_if_success (with_reducible show wpAny _ _ (PySem.call (Value.builtin "len") [Value.ref _]) _ _ _)); dsimp only; (fail_if_success (with_reducible show wpAny _ _ (PySem.call (Value.builtin "len") [Value.ref _]) _ _ _)); walk1) | ((fail_if_success (with_reducible show wpAny _ _ (PySem.call (Value.builtin "len") [Value.ref _]) _ _ _)); leave1; walk_say "STEP leave1"; try dsimp only) | fail "no step")
    dsimp only
    refine l_len (by k_asm) (.head _) (by omega) ?_
    repeat' (first | (k_unfold; (try dsimp only)) | (k_end; wrow_close) | ((fail_if_success (with_reducible show wpAny _ _ (PySem.call (Value.builtin "list.append") [Value.ref _, _]) _ _ _)); walk1) | ((fail_if_success (with_reducible show wpAny _ _ (PySem.call (Value.builtin "list.append") [Value.ref _, _]) _ _ _)); dsimp only; (fail_if_success (with_reducible show wpAny _ _ (PySem.call (Value.builtin "list.append") [Value.ref _, _]) _ _ _)); walk1) | ((fail_if_success (with_reducible show wpAny _ _ (PySem.call (Value.builtin "list.append") [Value.ref _, _]) _ _ _)); leave1; walk_say "STEP leave1"; try dsimp only) | fail "no step")
    dsimp only
    refine l_append (B := Hl) (by k_asm) (by k_asm) (.there (.there (.there .here))) (OffA.cons hDH (OffA.cons n1 (OffA.cons hIH oH2))) (by omega) fun h9 F9 N10 => ?_
    try clear N9
    repeat' (first | (k_unfold; (try dsimp only)) | (k_end; wrow_close) | ((fail_if_success (with_reducible show wpAny _ _ (PySem.call (Value.ref 324) _) _ _ _)); walk1) | ((fail_if_success (with_reducible show wpAny _ _ (PySem.call (Value.ref 324) _) _ _ _)); dsimp only; (fail_if_success (with_reducible show wpAny _ _ (PySem.call (Value.ref 324) _) _ _ _)); walk1) | ((fail_if_success (with_reducible show wpAny _ _ (PySem.call (Value.ref 324) _) _ _ _)); leave1; walk_say "STEP leave1"; try dsimp only) | fail "no step")
    refine' words_ct (sp_len .sco) (sp_ne .sco) (sp_split .sco) (Nat.le_of_ble_eq_true rfl) ?B ?F ?X ?N ?T ?hk ?hd ?hu ?_
    case B => k_asm
    case F => k_asm
    case X => k_asm
    case N => k_asm
    case T => k_asm
    case hk => exact rfl
    case hd => ktr_room
    case hu => ktr_units
    intro W3 cvs cn3 ex3 h11 tk11 F11 N11 hW3 hoW3
    have hoWB : OffA ex3 Bl := (off_of hoW3 (.tail _ (.tail _ (.head _)))).sub fun q hq => .tail _ hq
    have hoWH : OffA ex3 Hl := (off_of hoW3 (.head _)).sub fun q hq => .tail _ hq
    have hoWI : OffA ex3 I := (off_of hoW3 (.tail _ (.tail _ (.tail _ (.head _))))).sub fun q hq => .tail _ hq
    replace N11 := mix2 N11
    have hcl : cvs.length ≤ 4 := by rw [hW3.len]; exact words_len .sco
    have hrl : (List.replicate c cvs).flatten.length ≤ 3 := by
      have := ((hW3.rep hc3).len)
      rw [List.length_replicate] at this
      omega
    have hP3 : PairsAre (ex3 ++ ex2) (tvs2 ++ (List.replicate c cvs).flatten) (pre (rows.take (i + 1))) := by
      rw [pre_take_succ hrow]
      exact (hP2.mono fun q hq => List.mem_append_right _ hq).app ((hW3.mono fun q hq => List.mem_append_left _ hq).rep hc3) (by omega)
    generalize hx3 : ex3 ++ ex2 = ex4 at N11 hP3
    have oB4 : OffA ex4 Bl := hx3 ▸ hoWB.app oB2
    have oH4 : OffA ex4 Hl := hx3 ▸ hoWH.app oH2
    have oI4 : OffA ex4 I := hx3 ▸ hoWI.app oI2
    clear hoW3 hoWB hoWH hoWI hx3 F9 N10 oB2 oH2 oI2 hP2
    repeat' (first | (k_unfold; (try dsimp only)) | (k_end; wrow_close) | ((fail_if_success (with_reducible show wpAny _ _ (binaryOp Operator.Mult (Value.ref _) (Value.int _ _)) _ _ _)); walk1) | ((fail_if_success (with_reducible show wpAny _ _ (binaryOp Operator.Mult (Value.ref _) (Value.int _ _)) _ _ _)); dsimp only; (fail_if_success (with_reducible show wpAny _ _ (binaryOp Operator.Mult (Value.ref _) (Value.int _ _)) _ _ _)); walk1) | ((fail_if_success (with_reducible show wpAny _ _ (binaryOp Operator.Mult (Value.ref _) (Value.int _ _)) _ _ _)); leave1; walk_say "STEP leave1"; try dsimp only) | fail "no step")
    dsimp only
    refine l_mul (by k_asm) (by k_asm) (.head _) hc3 hcl fun M1 h12 F12 N12 lM1 => ?_
    try clear N11 F11
    repeat' (first | (k_unfold; (try dsimp only)) | (k_end; wrow_close) | ((fail_if_success (with_reducible show wpAny _ _ (binaryOp Operator.Add (Value.ref _) (Value.ref _)) _ _ _)); walk1) | ((fail_if_success (with_reducible show wpAny _ _ (binaryOp Operator.Add (Value.ref _) (Value.ref _)) _ _ _)); dsimp only; (fail_if_success (with_reducible show wpAny _ _ (binaryOp Operator.Add (Value.ref _) (Value.ref _)) _ _ _)); walk1) | ((fail_if_success (with_reducible show wpAny _ _ (binaryOp Operator.Add (Value.ref _) (Value.ref _)) _ _ _)); leave1; walk_say "STEP leave1"; try dsimp only) | fail "no step")
    dsimp only
    refine l_add (by k_asm) (by k_asm) (.tail _ (.tail _ (.tail _ (.head _)))) (.head _) (by omega) fun D2 h13 F13 N13 lD2 => ?_
    try clear N12 F12
    have d1 : D2 ≠ I := Nat.ne_of_gt (lD2 (I, it) (by simp))
    have d2 : D2 ≠ Bl := Nat.ne_of_gt (lD2 (Bl, _) (.tail _ (.tail _ (.tail _ (.tail _ (.head _))))))
    have d3 : D2 ≠ Hl := Nat.ne_of_gt (lD2 (Hl, _) (.tail _ (.tail _ (.head _))))
    clear lD2
    repeat' (first | (k_unfold; (try dsimp only)) | (k_end; wrow_close) | (walk1) | (dsimp only; walk1) | (leave1; walk_say "STEP leave1"; try dsimp only) | fail "no step")
    exact right_end (by assumption) (by assumption) hP3 (hb.snoc (by rw [htl])) (hh.snoc hrow (by rw [hl2])) n1 oB4 oH4 oI4 hIB hIH d1 d2 d3
  case done =>
    clear kF kN2 l12 l13
    rintro m₁ nx h tkd ⟨u, Tl, rfl, ⟨bvs, nb, hvs, nh, tvs, nt, extras, mT, mB, mH, mX, hP, hb, hh, n1, n2, n3, oB, oH⟩⟩ F1 N1
    rw [hRs.len, List.take_length] at hP
    rw [hRs.len] at hb hh
    have N2 : News g' L' h ((Tl, listOf tvs.toArray nt) :: (Bl, listOf bvs.toArray nb) :: (Hl, listOf hvs.toArray nh) :: extras) := fun q hq => N1 q (by
      simp only [List.mem_cons] at hq ⊢
      rcases hq with rfl | rfl | rfl | hq
      · exact mT
      · exact mB
      · exact mH
      · exact mX q hq)
    change Fr g' L' h _ at F1
    have htl : tvs.length = offs rows rows.length := by rw [hP.len, ← pre_len rows rows.length (Nat.le_refl _), List.take_length]
    have hrl : rows.length ≤ 100 := by rw [← hRs.len]; exact hRs.small
    have hz1 : tvs.length ≤ 700 := by
      have h1 := offs_le rows hRs.ok rows.length (Nat.le_refl _)
      omega
    have hz2 : bvs.length ≤ 100 := by rw [hb.1]; exact hrl
    clear N1 mT mB mH mX
    try dsimp only
    repeat' (first | (k_unfold; (try dsimp only)) | (k_end; wrow_close) | ((fail_if_success (with_reducible show wpAny _ _ (PySem.call (Value.builtin "len") [Value.ref _]) _ _ _)); walk1) | ((fail_if_success (with_reducible show wpAny _ _ (PySem.call (Value.builtin "len") [Value.ref _]) _ _ _)); dsimp only; (fail_if_success (with_reducible show wpAny _ _ (PySem.call (Value.builtin "len") [Value.ref _]) _ _ _)); walk1) | ((fail_if_success (with_reducible show wpAny _ _ (PySem.call (Value.builtin "len") [Value.ref _]) _ _ _)); leave1; walk_say "STEP leave1"; try dsimp only) | fail "no step")
    dsimp only
    refine l_len (by k_asm) (.head _) (by omega) ?_
    repeat' (first | (k_unfold; (try dsimp only)) | (k_end; wrow_close) | ((fail_if_success (with_reducible show wpAny _ _ (PySem.call (Value.builtin "list.append") [Value.ref _, _]) _ _ _)); walk1) | ((fail_if_success (with_reducible show wpAny _ _ (PySem.call (Value.builtin "list.append") [Value.ref _, _]) _ _ _)); dsimp only; (fail_if_success (with_reducible show wpAny _ _ (PySem.call (Value.builtin "list.append") [Value.ref _, _]) _ _ _)); walk1) | ((fail_if_success (with_reducible show wpAny _ _ (PySem.call (Value.builtin "list.append") [Value.ref _, _]) _ _ _)); leave1; walk_say "STEP leave1"; try dsimp only) | fail "no step")
    dsimp only
    refine l_append (B := Bl) (by k_asm) (by k_asm) (.there .here) (OffA.cons (Ne.symm n2) (OffA.cons (Ne.symm n1) oB)) (by omega) fun h5 F5 N5 => ?_
    have hb2 := hb.snoc (t := tkd + 1) (x := (tvs.length : Int)) (by rw [htl])
    repeat' (first | (k_unfold; (try dsimp only)) | (k_end; wrow_close) | ((fail_if_success (with_reducible show wpAny _ _ (eval (PySem.Expr.ListComp _ _ _ _) _) _ _ _)); (fail_if_success (with_reducible show wpAny _ _ (PySem.call (Value.ref 343) _) _ _ _)); walk1) | ((fail_if_success (with_reducible show wpAny _ _ (eval (PySem.Expr.ListComp _ _ _ _) _) _ _ _)); (fail_if_success (with_reducible show wpAny _ _ (PySem.call (Value.ref 343) _) _ _ _)); dsimp only; (fail_if_success (with_reducible show wpAny _ _ (eval (PySem.Expr.ListComp _ _ _ _) _) _ _ _)); (fail_if_success (with_reducible show wpAny _ _ (PySem.call (Value.ref 343) _) _ _ _)); walk1) | ((fail_if_success (with_reducible show wpAny _ _ (eval (PySem.Expr.ListComp _ _ _ _) _) _ _ _)); (fail_if_success (with_reducible show wpAny _ _ (PySem.call (Value.ref 343) _) _ _ _)); leave1; walk_say "STEP leave1"; try dsimp only) | fail "no step")
    refine' ListComp_turns F5 ?lca ?lcb ?lcc ?lcd ?lce ?lcf
    case lca => with_unfolding_all rfl
    case lcb => decide
    case lcc => rfl
    case lcd => decide
    case lcf => intro _; rfl
    repeat' (first | (k_unfold; (try dsimp only)) | (k_end; wrow_close) | ((fail_if_success (with_reducible show wpAny _ _ (pyIter (Value.ref _)) _ _ _)); walk1) | ((fail_if_success (with_reducible show wpAny _ _ (pyIter (Value.ref _)) _ _ _)); dsimp only; (fail_if_success (with_reducible show wpAny _ _ (pyIter (Value.ref _)) _ _ _)); walk1) | ((fail_if_success (with_reducible show wpAny _ _ (pyIter (Value.ref _)) _ _ _)); leave1; walk_say "STEP leave1"; try dsimp only) | fail "no step")
    refine comp_rows (l := Rl) (vs := rvs) (nl := nr) (PhJ ((Bl, listOf (bvs ++ [Value.int (↑tvs.length) (tkd + 1)]).toArray (nb + 1)) :: (Tl, listOf tvs.toArray nt) :: (Hl, listOf hvs.toArray nh) :: extras) cold rows) (by exact rfl) (hC' _ hR) (fun i v e => by obtain ⟨T, A, _, _, _, _, _, _, _, _, e2, _⟩ := hRs.get i v e; exact ⟨T, e2⟩) (Nat.le_trans hRs.small (Nat.le_of_ble_eq_true rfl)) F5 N5 ⟨⟨rfl, fun q hq => hq⟩, fun j v e => by cases e⟩ ?cturn ?cdone
    case cturn =>
      intro i v ys news₁ h₁ tk₁ own C oC D m₁ E' hv hJ offN offO hCD hCL hfp hC₀ hoC F₁ N₁
      obtain ⟨T1, A1, avs, k1, k2, t1, t2, sp, c, hrow, rfl, mT1, mA1, hAk, hc3, hsp⟩ := hRs.get i _ hv
      refine asg3 (by exact rfl) ⟨_, F₁.keep _ _ (hC' _ mT1), rfl, _, rfl⟩ rfl rfl rfl rfl (hoC.ns (N₁ _ (List.mem_append_right _ List.mem_cons_self)).1) fun h2 tk2 hn2 hk2 => ?_
      obtain ⟨m₂, e1, e2, hn3⟩ : ∃ m₂, m₂ (S "able") = some (.ref A1) ∧ m₂ (S "many") = some (.int (c : Int) t2) ∧ h2.Ns C m₂ := ⟨_, rfl, rfl, hn2⟩
      obtain ⟨F2, oC2, hoC2, N2⟩ := turn_after F₁ N₁ hCD hCL hC₀ (fun p hp => (offO p hp).2.1) (fun p hp => (offN p hp).2.1) hk2 hn3
      generalize hr : own ++ news₁ = rest at N2
      clear hn2 hn3 hoC F₁ N₁ hk2 N5 F5
      try dsimp only
      repeat' (first | (k_unfold; (try dsimp only)) | (k_end; wrow_close) | (walk1) | (dsimp only; walk1) | (leave1; walk_say "STEP leave1"; try dsimp only) | fail "no step")
      exact ph_end (by assumption) (by assumption) (by assumption) hr hoC2 hfp (fun b hb => List.mem_cons.mpr (.inl (List.mem_singleton.mp hb))) offN hJ hrow mA1 hAk hc3
    case cdone =>
      intro P h7 tk7 pvs news' F7 N7 offP hJ
      try dsimp only
      repeat' (first | (k_unfold; (try dsimp only)) | (k_end; wrow_close) | ((fail_if_success (with_reducible show wpAny _ _ (PySem.call (Value.ref 343) _) _ _ _)); walk1) | ((fail_if_success (with_reducible show wpAny _ _ (PySem.call (Value.ref 343) _) _ _ _)); dsimp only; (fail_if_success (with_reducible show wpAny _ _ (PySem.call (Value.ref 343) _) _ _ _)); walk1) | ((fail_if_success (with_reducible show wpAny _ _ (PySem.call (Value.ref 343) _) _ _ _)); leave1; walk_say "STEP leave1"; try dsimp only) | fail "no step")
      have hC7 : ColdAt h7 (((P, lst pvs) :: news') ++ cold) := fun q hq => (List.mem_append.mp hq).elim (fun hq => (N7 q hq).1) (hC'.keeps F7.keep q)
      have N8 : News g' L' h7 ((Bl, listOf (bvs ++ [Value.int (↑tvs.length) (tkd + 1)]).toArray (nb + 1)) :: (Tl, listOf tvs.toArray nt) :: (Hl, listOf hvs.toArray nh) :: extras) := fun q hq => N7 q (.tail _ (hJ.1.2 q hq))
      have hPh : PhAre (((P, lst pvs) :: news') ++ cold) pvs (psOf rows) := (hJ.are hRs.len hRs.small).mono fun q hq => .tail _ hq
      clear N5 F5 offP
      refine' due_ct (cold := ((P, lst pvs) :: news') ++ cold) (hP := .head _) (hPs := hPh) (hK := List.mem_append_right _ hK) (hKs := hKs) (ks := ks) ?B ?F ?X ?N ?T ?hk ?hC ?hd ?hu ?_
      case B => k_asm
      case F => k_asm
      case X => k_asm
      case N => exact N8
      case T => k_asm
      case hk => exact rfl
      case hC => exact hC7
      case hd => ktr_room
      case hu => ktr_units
      intro D B2 place odd tpl items nD n2b exd h9 tk9 F9 N9 aX hdue
      replace N9 := mix3 N9
      clear N7 N8 hC7 F7 hPh
      repeat' (first | (k_unfold; (try dsimp only)) | (k_end; wrow_close) | ((fail_if_success (with_reducible show wpAny _ _ (PySem.call (Value.ref 329) _) _ _ _)); (fail_if_success (with_reducible show wpAny _ _ (binaryOp Operator.Add (Value.ref _) (Value.ref _)) _ _ _)); walk1) | ((fail_if_success (with_reducible show wpAny _ _ (PySem.call (Value.ref 329) _) _ _ _)); (fail_if_success (with_reducible show wpAny _ _ (binaryOp Operator.Add (Value.ref _) (Value.ref _)) _ _ _)); dsimp only; (fail_if_success (with_reducible show wpAny _ _ (PySem.call (Value.ref 329) _) _ _ _)); (fail_if_success (with_reducible show wpAny _ _ (binaryOp Operator.Add (Value.ref _) (Value.ref _)) _ _ _)); walk1) | ((fail_if_success (with_reducible show wpAny _ _ (PySem.call (Value.ref 329) _) _ _ _)); (fail_if_success (with_reducible show wpAny _ _ (binaryOp Operator.Add (Value.ref _) (Value.ref _)) _ _ _)); leave1; walk_say "STEP leave1"; try dsimp only) | fail "no step")
      generalize hx5 : exd ++ extras = ex5 at *
      have sX : ∀ q ∈ exd, q ∈ ex5 := fun q hq => hx5 ▸ List.mem_append_left _ hq
      have sE : ∀ q ∈ extras, q ∈ ex5 := fun q hq => hx5 ▸ List.mem_append_right _ hq
      clear hx5
      dsimp only
      refine l_add (xs := tvs) (by k_asm) (by k_asm) (.tail _ (.tail _ (.tail _ (.tail _ (.tail _ (.head _)))))) (.head _) (by simp only [List.length_singleton]; omega) fun TT h10 F10 N10 lTT => ?_
      obtain ⟨all, N11, hPT, mTT, sA⟩ := toks_all (cold := cold) hP sE hz1 N10
      clear N10 lTT
      repeat' (first | (k_unfold; (try dsimp only)) | (k_end; wrow_close) | ((fail_if_success (with_reducible show wpAny _ _ (PySem.call (Value.ref 329) _) _ _ _)); walk1) | ((fail_if_success (with_reducible show wpAny _ _ (PySem.call (Value.ref 329) _) _ _ _)); dsimp only; (fail_if_success (with_reducible show wpAny _ _ (PySem.call (Value.ref 329) _) _ _ _)); walk1) | ((fail_if_success (with_reducible show wpAny _ _ (PySem.call (Value.ref 329) _) _ _ _)); leave1; walk_say "STEP leave1"; try dsimp only) | fail "no step")
      refine' reader_ct (cold := all ++ cold) (hP := List.mem_append_left _ mTT) (hPs := hPT) ?B ?F ?X ?N ?T ?hk ?hC ?hd ?hu ?_
      case B => k_asm
      case F => k_asm
      case X => k_asm
      case N => exact N11
      case T => k_asm
      case hk => exact rfl
      case hC => exact fun q hq => (List.mem_append.mp hq).elim (fun hq => (N11 q hq).1) (hC'.keeps F10.keep q)
      case hd => ktr_room
      case hu => ktr_units
      intro R dR Lt Dn q1 q2 q3 w1 w2 w3 wp exr h11 tk11 F11 N12 hRd oxR oR oC
      obtain ⟨ex6, sR, s5, oX6, N13⟩ : ∃ ex6 : Led, (∀ q ∈ exr, q ∈ ex6) ∧ (∀ q ∈ ex5, q ∈ ex6) ∧ OffA ex6 dR ∧ News g' L' h11 ((dR, rdDict q1 q2 q3 w1 w2 w3 Lt Dn ((0 : Nat) : Int) wp) :: (B2, listOf items.toArray n2b) :: (Bl, listOf (bvs ++ [Value.int (↑tvs.length) (tkd + 1)]).toArray (nb + 1)) :: (Hl, listOf hvs.toArray nh) :: ex6) :=
        ⟨exr ++ ex5, fun q hq => List.mem_append_left _ hq, fun q hq => List.mem_append_right _ hq, oxR.app (oR.sub fun q hq => sA q (.tail _ (.tail _ (.tail _ hq)))), fun q hq => N12 q (by
          simp only [List.mem_cons, List.mem_append] at hq ⊢
          rcases hq with hq | hq | hq | hq | hq | hq
          · exact .inl hq
          · exact .inr (.inr (sA q (by simp [hq])))
          · exact .inr (.inr (sA q (by simp [hq])))
          · exact .inr (.inr (sA q (by simp [hq])))
          · exact .inr (.inl hq)
          · exact .inr (.inr (sA q (by simp [hq]))))⟩
      have oN : OffA ((B2, listOf items.toArray n2b) :: (Bl, listOf (bvs ++ [Value.int (↑tvs.length) (tkd + 1)]).toArray (nb + 1)) :: (Hl, listOf hvs.toArray nh) :: ex6) dR :=
        OffA.cons (oR _ (sA _ (.head _))) (OffA.cons (oR _ (sA _ (.tail _ (.head _)))) (OffA.cons (oR _ (sA _ (.tail _ (.tail _ (.head _))))) oX6))
      have oC2 : OffA (exr ++ cold) dR := oxR.app (oC.sub fun q hq => List.mem_append_right _ hq)
      clear N12 N11 F10 hPT mTT sA oC oxR oR
      repeat' (first | (k_unfold; (try dsimp only)) | (k_end; wrow_close) | ((fail_if_success (with_reducible show wpAny _ _ (exec (Stmt.Try _ _ _ _ _) _) _ _ _)); walk1) | ((fail_if_success (with_reducible show wpAny _ _ (exec (Stmt.Try _ _ _ _ _) _) _ _ _)); dsimp only; (fail_if_success (with_reducible show wpAny _ _ (exec (Stmt.Try _ _ _ _ _) _) _ _ _)); walk1) | ((fail_if_success (with_reducible show wpAny _ _ (exec (Stmt.Try _ _ _ _ _) _) _ _ _)); leave1; walk_say "STEP leave1"; try dsimp only) | fail "no step")
      refine wpAny_Try_except ?_
      repeat' (first | (k_unfold; (try dsimp only)) | (k_end; wrow_close) | ((fail_if_success (with_reducible show wpAny _ _ (PySem.call (Value.ref 56) _) _ _ _)); walk1) | ((fail_if_success (with_reducible show wpAny _ _ (PySem.call (Value.ref 56) _) _ _ _)); dsimp only; (fail_if_success (with_reducible show wpAny _ _ (PySem.call (Value.ref 56) _) _ _ _)); walk1) | ((fail_if_success (with_reducible show wpAny _ _ (PySem.call (Value.ref 56) _) _ _ _)); leave1; walk_say "STEP leave1"; try dsimp only) | fail "no step")
      rename_i hF0 hN0
      refine' branches_ct (cold := exr ++ cold) (ks := ks) (dn := oN) (dc := oC2) (hR := hRd.mono fun q hq => List.mem_append_left _ hq) (hK := List.mem_append_right _ hK) (hKs := hKs) (hl := toks_hl rows) (hw0 := toks_pos rows) (h3c := cont_le hRs.ok) ?B ?F ?X ?N ?T ?hk ?hC ?hd ?hu ?ret ?retE
      case B => k_asm
      case F => k_asm
      case X => k_asm
      case N => k_asm
      case T => k_asm
      case hk => exact rfl
      case hC => exact fun q hq => (List.mem_append.mp hq).elim (fun hq => (hN0 q (.tail _ (.tail _ (.tail _ (.tail _ (sR q hq)))))).1) (hC'.keeps (Fr.keep (by assumption)) q)
      case hd => ktr_room
      case hu => ktr_units
      case ret =>
        intro b pe bs its nb2 exb tp' h12 tk12 hst F12 N14 aXb hBr
        obtain ⟨pl, hdf, rfl, hpl⟩ := rel_ok hRs.ok hst
        rw [hdf] at hdue
        obtain ⟨rfl, rfl, hBr2, hbl⟩ := hdue
        have N15 : News g' L' h12 ((b, tupObj its nb2) :: (dR, rdDict q1 q2 q3 w1 w2 w3 Lt Dn ((offs rows place : Nat) : Int) tp') :: (B2, listOf items.toArray n2b) :: (Bl, listOf (bvs ++ [Value.int (↑tvs.length) (tkd + 1)]).toArray (nb + 1)) :: (exb ++ ex6)) := fun q hq => N14 q (by
          simp only [List.mem_cons, List.mem_append] at hq ⊢
          rcases hq with hq | hq | hq | hq | hq | hq
          · exact .inl hq
          · exact .inr (.inl hq)
          · exact .inr (.inr (.inr (.inl hq)))
          · exact .inr (.inr (.inr (.inr (.inl hq))))
          · exact .inr (.inr (.inl hq))
          · exact .inr (.inr (.inr (.inr (.inr (.inr hq))))))
        have mI : (R, instObj 266 dR) ∈ exb ++ ex6 := List.mem_append_right _ (sR _ hRd.inst)
        have hBrA : BrAll (exb ++ ex6) its bs := hBr.mono fun q hq => List.mem_append_left _ hq
        have hBrB : BrAll (exb ++ ex6) items bs := hBr2.mono fun q hq => List.mem_append_right _ (s5 _ (sX _ hq))
        have hil : items.length ≤ 16384 := by
          have h1 := hBr2.len
          have h2 := hKs.small
          have h3 := hKs.len
          omega
        obtain ⟨v0, hv0⟩ : ∃ v, (bvs ++ [Value.int (↑tvs.length) (tkd + 1)])[((place : Nat) : Int).toNat]? = some v := ⟨_, List.getElem?_eq_getElem (by rw [Int.toNat_natCast, hb2.1]; omega)⟩
        obtain ⟨t0, rfl⟩ := hb2.2 _ _ hv0
        rw [Int.toNat_natCast] at hv0
        have hbz : (bvs ++ [Value.int (↑tvs.length) (tkd + 1)]).length ≤ 16384 := by rw [hb2.1]; omega
        generalize exb ++ ex6 = ex7 at N15 mI hBrA hBrB
        clear N14
        try dsimp only
        repeat' (first | (k_unfold; (try dsimp only)) | (k_end; wrow_close) | ((fail_if_success (with_reducible show wpAny _ _ (PySem.call (Value.type "tuple") _) _ _ _)); (fail_if_success (with_reducible show wpAny _ _ (compareOp CmpOp.Eq (Value.ref _) (Value.ref _)) _ _ _)); (fail_if_success (with_reducible show wpAny _ _ (subscriptTail _ _ (Value.ref _) _) _ _ _)); walk1) | ((fail_if_success (with_reducible show wpAny _ _ (PySem.call (Value.type "tuple") _) _ _ _)); (fail_if_success (with_reducible show wpAny _ _ (compareOp CmpOp.Eq (Value.ref _) (Value.ref _)) _ _ _)); (fail_if_success (with_reducible show wpAny _ _ (subscriptTail _ _ (Value.ref _) _) _ _ _)); dsimp only; (fail_if_success (with_reducible show wpAny _ _ (PySem.call (Value.type "tuple") _) _ _ _)); (fail_if_success (with_reducible show wpAny _ _ (compareOp CmpOp.Eq (Value.ref _) (Value.ref _)) _ _ _)); (fail_if_success (with_reducible show wpAny _ _ (subscriptTail _ _ (Value.ref _) _) _ _ _)); walk1) | ((fail_if_success (with_reducible show wpAny _ _ (PySem.call (Value.type "tuple") _) _ _ _)); (fail_if_success (with_reducible show wpAny _ _ (compareOp CmpOp.Eq (Value.ref _) (Value.ref _)) _ _ _)); (fail_if_success (with_reducible show wpAny _ _ (subscriptTail _ _ (Value.ref _) _) _ _ _)); leave1; walk_say "STEP leave1"; try dsimp only) | fail "no step")
        try dsimp only
        refine kde_tupleOf (by k_asm) (by k_asm) (News.isList (by k_asm) (.tail _ (.tail _ (.head _)))) (by rw [List.size_toArray]; exact hil) rfl ?_
        intro D3 h15 F15 N16 l16
        change News g' L' h15 ((D3, tupObj items 0) :: _) at N16
        clear l16
        repeat' (first | (k_unfold; (try dsimp only)) | (k_end; wrow_close) | ((fail_if_success (with_reducible show wpAny _ _ (compareOp CmpOp.Eq (Value.ref _) (Value.ref _)) _ _ _)); (fail_if_success (with_reducible show wpAny _ _ (subscriptTail _ _ (Value.ref _) _) _ _ _)); walk1) | ((fail_if_success (with_reducible show wpAny _ _ (compareOp CmpOp.Eq (Value.ref _) (Value.ref _)) _ _ _)); (fail_if_success (with_reducible show wpAny _ _ (subscriptTail _ _ (Value.ref _) _) _ _ _)); dsimp only; (fail_if_success (with_reducible show wpAny _ _ (compareOp CmpOp.Eq (Value.ref _) (Value.ref _)) _ _ _)); (fail_if_success (with_reducible show wpAny _ _ (subscriptTail _ _ (Value.ref _) _) _ _ _)); walk1) | ((fail_if_success (with_reducible show wpAny _ _ (compareOp CmpOp.Eq (Value.ref _) (Value.ref _)) _ _ _)); (fail_if_success (with_reducible show wpAny _ _ (subscriptTail _ _ (Value.ref _) _) _ _ _)); leave1; walk_say "STEP leave1"; try dsimp only) | fail "no step")
        try dsimp only
        refine br_eq (by k_asm) (.tail _ (.head _)) (.head _) (hBrA.mono fun q hq => .tail _ (.tail _ (.tail _ (.tail _ (.tail _ hq))))) (hBrB.mono fun q hq => .tail _ (.tail _ (.tail _ (.tail _ (.tail _ hq))))) (by ktr_units) ?_
        repeat' (first | (k_unfold; (try dsimp only)) | (k_end; wrow_close) | ((fail_if_success (with_reducible show wpAny _ _ (subscriptTail _ _ (Value.ref _) _) _ _ _)); walk1) | ((fail_if_success (with_reducible show wpAny _ _ (subscriptTail _ _ (Value.ref _) _) _ _ _)); dsimp only; (fail_if_success (with_reducible show wpAny _ _ (subscriptTail _ _ (Value.ref _) _) _ _ _)); walk1) | ((fail_if_success (with_reducible show wpAny _ _ (subscriptTail _ _ (Value.ref _) _) _ _ _)); leave1; walk_say "STEP leave1"; try dsimp only) | fail "no step")
        try dsimp only
        refine l_item (by k_asm) (.tail _ (.tail _ (.tail _ (.tail _ (.head _))))) (Int.natCast_nonneg _) hbz (by rw [Int.toNat_natCast]; exact hv0) ?_
        repeat' (first | (k_unfold; (try dsimp only)) | (k_end; wrow_close) | (walk1) | (dsimp only; walk1) | (leave1; walk_say "STEP leave1"; try dsimp only) | fail "no step")
        exact endT_ok (g := g') (by assumption) (congrArg Value.bool (beq_self_eq_true _))
      case retE =>
        intro e pe h12 tk12 hst tu th
        obtain ⟨pl, r0, hdf, hr0, rfl⟩ := rel_odd hRs.ok hst
        rw [hdf] at hdue
        obtain ⟨rfl, rfl⟩ := hdue
        refine note_on (dR := dR) B' hF0 hN0 (.head _) rfl rfl rfl tu th fun h13 tu13 th13 => ?_
        obtain ⟨g13, T13, F13, N13⟩ := ground_t B' hF0 hN0 (.head _) rfl tu13
        have st : ∀ g2, KtsTurn (frs (envX cn cs L a ccd cl :: [])) g' g2 → h₀.StaysIn g2 := fun g2 T2 b o e => T2.other b o (FG'.keep b o e) fun hm => by
          rcases frs_cons (env := envX cn cs L a ccd cl) (l := []) rfl hm with z | z
          · rw [z, fr_none F] at e; cases e
          · cases z
        have X13 : (Mine.heap w.params).In g13 := X.keeps (st _ T13)
        have P13 : TopRead p loose mg mb g13 := topRead_of (T.keeps (st _ T13))
        try dsimp only
        refine wpAny_handleBy_cons (codeAny_handlers_test (name_K F13 X13 P13 (by k_is) ?_)) (by intro q; cases q)
        obtain ⟨nm, nq, nN, bs0, bm, hdct, sn, sub, ab, col, dd, k0, k1, k2, k3, k5, newId, hGf, hbase, hbT⟩ := kts_cls (C := 95) (T := "BaseException") X13 (by kts_isx)
        obtain ⟨_, oe0, _, _, _, _, _, _, _, _, _, _, _, _, _, _, _, hoe, hoec, _⟩ := id th13
        try dsimp only
        refine wpAny_excMatches_sub_self (F13.keep _ _ hGf) hoe hoec hbase ?_
        try dsimp only
        refine codeAny_handlers_suite_as ?_
        refine flight_on tu13 th13 fun h14 tu14 th14 => ?_
        obtain ⟨g14, T14, F14, N14⟩ := ground_t B' hF0 hN0 (.head _) rfl tu14
        have X14 : (Mine.heap w.params).In g14 := X.keeps (st _ T14)
        have TT14 : Top p loose mean mg mb g14 := T.keeps (st _ T14)
        obtain ⟨oe, dx, q, k1, k2, u1, u2, u3, u4, v, n, tq, lx, hoc, hno, hod, NL, htc, htd, hq⟩ := held_led F14 th14 hF0.ns.lt
        have NH := N14 (Hl, listOf hvs.toArray nh) (by simp) (oN (Hl, _) (.tail _ (.tail _ (.head _))))
        have N15 : News g14 L' h14 ((e, oe) :: (dx, dictOf [⟨k1, .str (S "what") u1, v⟩, ⟨k2, .str (S "at") u2, .ref q⟩] 2) :: (Hl, listOf hvs.toArray nh) :: lx) := fun x hx => by
          simp only [List.mem_cons] at hx
          rcases hx with hx | hx | rfl | hx
          · exact NL x (by rw [hx]; exact .head _)
          · exact NL x (by rw [hx]; exact .tail _ (.head _))
          · exact NH
          · exact NL x (.tail _ (.tail _ hx))
        refine stN F14 N15 fun h15 F15 N16 => ?_
        clear N15 NL NH N14 N13 hF0 hN0 tu tu13 tu14 th th13 th14 F13 X13 P13 hGf hoe F14 T13
        try dsimp only
        repeat' (first | (k_unfold; (try dsimp only)) | (k_end; wrow_close) | ((fail_if_success (with_reducible show wpAny _ _ (getAttr (Value.ref _) _ _) _ _ _)); (fail_if_success (with_reducible show wpAny _ _ (subscriptTail _ _ (Value.ref _) _) _ _ _)); (fail_if_success (with_reducible show wpAny _ _ (compareOp CmpOp.Eq (Value.ref _) (Value.ref _)) _ _ _)); walk1) | ((fail_if_success (with_reducible show wpAny _ _ (getAttr (Value.ref _) _ _) _ _ _)); (fail_if_success (with_reducible show wpAny _ _ (subscriptTail _ _ (Value.ref _) _) _ _ _)); (fail_if_success (with_reducible show wpAny _ _ (compareOp CmpOp.Eq (Value.ref _) (Value.ref _)) _ _ _)); dsimp only; (fail_if_success (with_reducible show wpAny _ _ (getAttr (Value.ref _) _ _) _ _ _)); (fail_if_success (with_reducible show wpAny _ _ (subscriptTail _ _ (Value.ref _) _) _ _ _)); (fail_if_success (with_reducible show wpAny _ _ (compareOp CmpOp.Eq (Value.ref _) (Value.ref _)) _ _ _)); walk1) | ((fail_if_success (with_reducible show wpAny _ _ (getAttr (Value.ref _) _ _) _ _ _)); (fail_if_success (with_reducible show wpAny _ _ (subscriptTail _ _ (Value.ref _) _) _ _ _)); (fail_if_success (with_reducible show wpAny _ _ (compareOp CmpOp.Eq (Value.ref _) (Value.ref _)) _ _ _)); leave1; walk_say "STEP leave1"; try dsimp only) | fail "no step")
        have I15 : InstAt h15 e oe 95 (some (dictOf [⟨k1, .str (S "what") u1, v⟩, ⟨k2, .str (S "at") u2, .ref q⟩] 2)) := ⟨(N16 _ (.head _)).1, hoc, hno, by rw [hod]; exact (N16 _ (.tail _ (.head _))).1⟩
        try dsimp only
        obtain ⟨nm2, nq2, nN2, bs2, bm2, hdct2, sn2, sub2, ab2, col2, dd2, j0, j1, j2, j3, j5, newId2, hGf2, hbase2, _⟩ := kts_cls (C := 95) (T := "BaseException") X14 (by kts_isx)
        have hfo : findObj (Mine.heap w.params) 95 (some (dictOf [⟨k1, .str (S "what") u1, v⟩, ⟨k2, .str (S "at") u2, .ref q⟩] 2)) (PySem.Str.ofString "at") = some (.value (.ref q)) := by
          refine' findObj_own ?gh ?ga ?gn ?gl
          case gh => k_is
          case ga => k_is
          case gn => k_is
          case gl => first | k_get | rfl | decide
        refine' gf_get (K := Mine.heap w.params) (X14.keeps F15.keep) I15 (F15.keep _ _ hGf2) hbase2 ?gga ?ggg hfo rfl ?_
        case gga => k_is
        case ggg => k_is
        clear hfo
        clear I15 hGf2
        repeat' (first | (k_unfold; (try dsimp only)) | (k_end; wrow_close) | ((fail_if_success (with_reducible show wpAny _ _ (subscriptTail _ _ (Value.ref _) _) _ _ _)); (fail_if_success (with_reducible show wpAny _ _ (compareOp CmpOp.Eq (Value.ref _) (Value.ref _)) _ _ _)); walk1) | ((fail_if_success (with_reducible show wpAny _ _ (subscriptTail _ _ (Value.ref _) _) _ _ _)); (fail_if_success (with_reducible show wpAny _ _ (compareOp CmpOp.Eq (Value.ref _) (Value.ref _)) _ _ _)); dsimp only; (fail_if_success (with_reducible show wpAny _ _ (subscriptTail _ _ (Value.ref _) _) _ _ _)); (fail_if_success (with_reducible show wpAny _ _ (compareOp CmpOp.Eq (Value.ref _) (Value.ref _)) _ _ _)); walk1) | ((fail_if_success (with_reducible show wpAny _ _ (subscriptTail _ _ (Value.ref _) _) _ _ _)); (fail_if_success (with_reducible show wpAny _ _ (compareOp CmpOp.Eq (Value.ref _) (Value.ref _)) _ _ _)); leave1; walk_say "STEP leave1"; try dsimp only) | fail "no step")
        obtain ⟨v0, hv0⟩ : ∃ v, hvs[((place : Nat) : Int).toNat]? = some v := ⟨_, List.getElem?_eq_getElem (by rw [Int.toNat_natCast, hh.1]; exact (List.getElem?_eq_some_iff.mp hr0).1)⟩
        obtain ⟨r1, t0, hr1, rfl⟩ := hh.2 _ _ hv0
        rw [Int.toNat_natCast] at hv0 hr1
        rw [hr0] at hr1
        cases hr1
        try dsimp only
        refine l_item (by k_asm) (.tail _ (.tail _ (.head _))) (Int.natCast_nonneg _) (by rw [hh.1]; omega) (by rw [Int.toNat_natCast]; exact hv0) ?_
        repeat' (first | (k_unfold; (try dsimp only)) | (k_end; wrow_close) | ((fail_if_success (with_reducible show wpAny _ _ (compareOp CmpOp.Eq (Value.ref _) (Value.ref _)) _ _ _)); walk1) | ((fail_if_success (with_reducible show wpAny _ _ (compareOp CmpOp.Eq (Value.ref _) (Value.ref _)) _ _ _)); dsimp only; (fail_if_success (with_reducible show wpAny _ _ (compareOp CmpOp.Eq (Value.ref _) (Value.ref _)) _ _ _)); walk1) | ((fail_if_success (with_reducible show wpAny _ _ (compareOp CmpOp.Eq (Value.ref _) (Value.ref _)) _ _ _)); leave1; walk_say "STEP leave1"; try dsimp only) | fail "no step")
        rename_i F18 N18 _
        try dsimp only
        refine at_eq (hq _ _ F18 fun p hp => (N18 _ (.tail _ (.tail _ (.tail _ (.tail _ hp))))).1) htc htd (N18 _ (.head _)).1 rfl rfl rfl (by ktr_units) ?_
        repeat' (first | (k_unfold; (try dsimp only)) | (k_end; wrow_close) | (walk1) | (dsimp only; walk1) | (leave1; walk_say "STEP leave1"; try dsimp only) | fail "no step")
        exact ⟨rfl, _, _, g14, rfl, T14, Fr.keep (by assumption)⟩
end
end
section
section
open PyProof.Rows.LCg
variable {prog : Program} {w : World} {A : Around} {E : Value → Shared → Prop} {s : Shared} {h₀ : Heap} {L : Addr} {m : PySem.Str → Option Value} {env : Env}
/-- a comprehension's turn that keeps nothing -/
noncomputable def SkipEnd (h₀ : Heap) (L : Addr) (m : PySem.Str → Option Value) (s₁ : Shared) (own : Led) (C D : Addr) (wr : List Addr) (ys : List Value) (J : List Value → Led → Prop) (s₂ : Shared) : Prop :=
  ∃ h' tk oC m₂ news', s₂ = { s₁ with heap := h', toks := tk } ∧ NsObj oC m₂ ∧ Fr h₀ L h' m ∧ News h₀ L h' (own ++ (C, oC) :: (D, lst ys) :: news') ∧ (∀ p ∈ news', p.1 ∉ wr ∧ p.1 ≠ C ∧ p.1 ≠ D) ∧ J ys news'
/-- a list comprehension of one name, with tests -/
theorem comp_turnsF {elt iter : PySem.Expr} {xn : PySem.Str} {px : Pos} {ifs : List PySem.Expr} {scope : Scope} {cl : List (PySem.Str × Addr)} {pos : Pos} {I : Addr} {fp wr : List Addr} {n : Nat} {P : Nat → Value → Prop} {St : Nat → Heap → Prop} {news : Led}
    {RR : Value → Addr → Result → Shared → Prop}
    (W : Walks prog w A I fp wr n P St) (hself : ∀ (s : Shared) (Q : Value → Shared → Prop) (E : Value → Shared → Prop), St 0 s.heap → Q (.ref I) s → wpAny (model prog w) A (pyIter (.ref I)) Q E s) (hsz : n ≤ sizeLine)
    (hcell : ∀ y ∈ scope.names, y.2 ≠ .cell) (hkind : scope.kind = .function) (hst : St 0 s.heap) (hfp : ∀ b ∈ fp, b < s.heap.objs.size)
    (F : Fr h₀ L s.heap m) (N : News h₀ L s.heap news) (hLf : L ∉ fp) (hwr : ∀ b ∈ wr, h₀.get? b = none) (off : ∀ p ∈ news, p.1 ∉ wr)
    (J : Nat → List Value → Led → Prop) (h0 : J 0 [] news)
    (step : ∀ i v ys m₁ news₁ h₁ tk₁ own C oC D (E' : Value → Shared → Prop), i < n → P i v → J i ys news₁ → (∀ p ∈ news₁, p.1 ∉ wr ∧ p.1 ≠ C ∧ p.1 ≠ D) → (∀ p ∈ own, p.1 ∈ fp ∧ p.1 ≠ C ∧ p.1 ≠ D) → C ≠ D → C ≠ L → (∀ b ∈ fp, b < D) → h₀.get? C = none → NsObj oC m₁ → Fr h₀ L h₁ m → News h₀ L h₁ (own ++ (C, oC) :: (D, lst ys) :: news₁) →
      wpAny (model prog w) A (assign (.Name xn px) (compEnvC scope cl C env) v) (fun _ s₃ => wpAny (model prog w) A (forIn ifs true fun c r => if r = true then do let ok ← isTrue c (compEnvC scope cl C env) (eval c (compEnvC scope cl C env)); pure (ForInStep.yield ok) else pure (ForInStep.yield r))
        (fun ok s₄ => if ok = true then wpAny (model prog w) A (eval elt (compEnvC scope cl C env)) (TurnEnd h₀ L m { s with heap := h₁, toks := tk₁ } own C D wr ys (J (i + 1))) E' s₄ else SkipEnd h₀ L m { s with heap := h₁, toks := tk₁ } own C D wr ys (J (i + 1)) s₄) E' s₃) E' { s with heap := h₁, toks := tk₁ })
    (hRR : ∀ D C h tk m' ys news', Fr h₀ L h m → News h₀ L h ((D, lst ys) :: news') → (∀ p ∈ news', p.1 ∉ wr ∧ p.1 ≠ C ∧ p.1 ≠ D) → h.Ns C m' → h₀.get? C = none → C ≠ L → C ≠ D → J n ys news' → RR (.ref D) C (.ok .next) { s with heap := h, toks := tk }) :
    wpAny (model prog w) A (newList []) (fun acc s₃ => wpAny (model prog w) A (newFunctionEnv scope env.globals cl [] env.qual none .none (some env)) (fun cenv s₄ =>
      codeAny (model prog w) A (.compStart (.ListComp elt [⟨.Name xn px, iter, ifs, 0⟩] scope pos) 0 (.ref I) acc { cenv with scope := relabel scope env }) (RR acc cenv.locals) s₄) E s₃) E s := by
  refine wpAny_newObj_type (wpAny_newFunctionEnv hcell (by intro y hy; simp at hy) (fun h₁ hns₁ hsb₁ => ?_) hkind)
  dsimp only at hns₁ hsb₁ ⊢
  generalize hH2 : s.heap.push { cls := .type "list", dict := none, data := .seq ([] : List Value).toArray } = H2 at hns₁ hsb₁ ⊢
  generalize hDe : s.heap.objs.size = D at *
  have hCe : H2.objs.size = D + 1 := by rw [← hH2, Heap.size_push, hDe]
  generalize hC' : H2.objs.size = C at *
  have hCD : C ≠ D := by rw [hCe]; exact Nat.succ_ne_self D
  have below : ∀ b, b < D → b ≠ C ∧ b ≠ D := fun b hb => ⟨by rw [hCe]; exact Nat.ne_of_lt (Nat.lt_succ_of_lt hb), Nat.ne_of_lt hb⟩
  have hDf : D ∉ fp := fun hm => Nat.lt_irrefl _ (hfp _ hm)
  have hCf : C ∉ fp := fun hm => by have := hfp _ hm; rw [hCe] at this; exact Nat.lt_irrefl _ (Nat.lt_of_succ_lt this)
  have old : ∀ b o, s.heap.get? b = some o → h₁.get? b = some o := fun b o e => hsb₁.extBut b o (below b (hDe ▸ Heap.lt_size e)).1 (Heap.get?_push_of_some _ (hH2 ▸ Heap.get?_push_of_some _ e))
  have hacc : h₁.get? D = some (lst []) := hsb₁.extBut _ _ (Ne.symm hCD) (Heap.get?_push_of_some _ (by rw [← hH2, ← hDe]; exact Heap.get?_push_size _ rfl))
  have fresh₀ : ∀ a, D ≤ a → h₀.get? a = none := fun a ha => by
    cases e : h₀.get? a with
    | none => rfl
    | some o' => exact absurd (hDe ▸ Heap.lt_size (F.keep a o' e)) (Nat.not_lt.mpr ha)
  have hD₀ : h₀.get? D = none := fresh₀ _ (Nat.le_refl _)
  have hC₀ : h₀.get? C = none := fresh₀ _ (by rw [hCe]; exact Nat.le_succ _)
  have hLlt : L < D := hDe ▸ F.ns.lt
  have hDL : D ≠ L := Ne.symm (below L hLlt).2
  have hCL : C ≠ L := Ne.symm (below L hLlt).1
  have hLw : L ∉ wr := fun h => hLf (W.sub _ h)
  have oldw : ∀ b o, h₀.get? b = some o → b ∉ wr := fun b o e hb => by rw [hwr b hb] at e; cases e
  have hDw : D ∉ wr := fun h => hDf (W.sub _ h)
  have hCw : C ∉ wr := fun h => hCf (W.sub _ h)
  have ofree : ∀ g : Heap, ∀ p ∈ PyProof.Rows.ownOf h₀ fp g, p.1 ∈ fp ∧ p.1 ≠ C ∧ p.1 ≠ D := fun g p hp => ⟨ownOf_sub p hp, fun e => hCf (e ▸ ownOf_sub p hp), fun e => hDf (e ▸ ownOf_sub p hp)⟩
  have loop : ∀ s₃ : Shared, s₃ = { s with heap := h₁, toks := s.toks + ([] : List (PySem.Str × Value)).length } →
      codeAny (model prog w) A (.compLoop (.ListComp elt [⟨.Name xn px, iter, ifs, 0⟩] scope pos) 0 (.ref I) (.ref D) (compEnvC scope cl C env)) (RR (.ref D) C) s₃ := by
    rintro s₃ rfl
    refine codeAny_compLoop_tests
      (fun k s' => ∃ h' tk i ys m' news', s' = { s with heap := h', toks := tk } ∧ i ≤ n ∧ k = n + 1 - i ∧ ys.length ≤ i ∧ St i h' ∧ Fr h₀ L h' m ∧ h'.Ns C m' ∧ News h₀ L h' ((D, lst ys) :: news') ∧
        (∀ p ∈ news', p.1 ∉ wr ∧ p.1 ≠ C ∧ p.1 ≠ D) ∧ J i ys news') ?_ (n + 1)
      ⟨h₁, _, 0, [], _, news, rfl, Nat.zero_le _, rfl, Nat.le_refl _, W.frame _ _ _ hst fun b _ o e => old b o e, F.keeps old, hns₁, fun p hp => ?_, fun p hp => ⟨off p hp, below _ (hDe ▸ Heap.lt_size (N p hp).1)⟩, h0⟩
    · rintro k s' ⟨h', tk, i, ys, m', news', rfl, hi, rfl, hyl, hst', F', hn', N', off', hJ⟩
      have next : ∀ h₂ : Heap, (∀ b o, b ∉ wr → h'.get? b = some o → h₂.get? b = some o) → Fr h₀ L h₂ m ∧ h₂.Ns C m' ∧ News h₀ L h₂ ((D, lst ys) :: news') := fun h₂ hk₂ =>
        ⟨⟨F'.ns.at' fun o e => hk₂ _ o hLw e, fun b o e => hk₂ b o (oldw b o e) (F'.keep b o e), F'.above⟩, hn'.at' fun o e => hk₂ _ o hCw e, fun p hp => ⟨hk₂ _ _ (by
          rcases List.mem_cons.mp hp with rfl | hp
          · exact hDw
          · exact (off' p hp).1) (N' p hp).1, (N' p hp).2⟩⟩
      by_cases hlt : i < n
      · refine W.item i _ _ _ hlt hst' fun v h₃ tk₂ hP hst₃ hk₃ => ?_
        obtain ⟨F₃, hn₃, N₃⟩ := next h₃ hk₃
        obtain ⟨oC, heC, hoC⟩ := ns_obj hn₃
        have Nown : News h₀ L h₃ (PyProof.Rows.ownOf h₀ fp h₃) := news_ownOf hLf
        have N₃' : News h₀ L h₃ (PyProof.Rows.ownOf h₀ fp h₃ ++ (C, oC) :: (D, lst ys) :: news') := Nown.append fun p hp => by
          rcases List.mem_cons.mp hp with rfl | hp
          · exact ⟨heC, hCL, hC₀⟩
          · exact N₃ p hp
        refine wpAny_mono (step i v ys m' news' h₃ tk₂ _ C oC D _ hlt hP hJ off' (ofree _) hCD hCL hfp hC₀ hoC F₃ N₃') (fun _ s₄ h₄ => wpAny_mono h₄ (fun ok s₅ h₅ => ?_) fun _ _ e => e) fun _ _ e => e
        cases ok with
        | false =>
          rw [if_neg Bool.false_ne_true] at h₅ ⊢
          obtain ⟨h₅, tk₅, oC₅, m₅, news₅, rfl, hoC₅, F₅, N₅, off₅, J₅⟩ := h₅
          have zC := (N₅ (C, oC₅) (List.mem_append_right _ List.mem_cons_self)).1
          have zN : News h₀ L h₅ ((D, lst ys) :: news₅) := fun p hp => N₅ p (List.mem_append_right _ (List.mem_cons_of_mem _ hp))
          have hst₅ : St (i + 1) h₅ := W.frame _ _ _ hst₃ fun b hb o e => by
            cases hn : h₀.get? b with
            | some o₀ =>
              have : o₀ = o := by have q := F₃.keep b o₀ hn; rw [e] at q; exact (Option.some.inj q).symm
              exact this ▸ F₅.keep b o₀ hn
            | none => exact (N₅ _ (List.mem_append_left _ (mem_ownOf hb hn e))).1
          exact ⟨n + 1 - (i + 1), by omega, h₅, tk₅, i + 1, ys, _, news₅, rfl, hlt, rfl, Nat.le_succ_of_le hyl, hst₅, F₅, hoC₅.ns zC, zN, off₅, J₅⟩
        | true =>
        rw [if_pos (rfl : true = true)] at h₅ ⊢
        refine wpAny_mono h₅ (fun y s₆ h₅ => ?_) fun _ _ e => e
        obtain ⟨h₅, tk₅, oC₅, m₅, news₅, rfl, hoC₅, F₅, N₅, off₅, J₅⟩ := h₅
        have zC := (N₅ (C, oC₅) (List.mem_append_right _ List.mem_cons_self)).1
        have zD := (N₅ (D, lst ys) (List.mem_append_right _ (List.mem_cons_of_mem _ List.mem_cons_self))).1
        have zN : News h₀ L h₅ news₅ := fun p hp => N₅ p (List.mem_append_right _ (List.mem_cons_of_mem _ (List.mem_cons_of_mem _ hp)))
        have hst₅ : St (i + 1) h₅ := W.frame _ _ _ hst₃ fun b hb o e => by
          cases hn : h₀.get? b with
          | some o₀ =>
            have : o₀ = o := by have q := F₃.keep b o₀ hn; rw [e] at q; exact (Option.some.inj q).symm
            exact this ▸ F₅.keep b o₀ hn
          | none => exact (N₅ _ (List.mem_append_left _ (mem_ownOf hb hn e))).1
        refine append_at (hsz := by show ys.toArray.size ≤ sizeLine; rw [List.size_toArray]; exact Nat.le_trans hyl (Nat.le_trans hi hsz)) zD fun h₆ hs₆ hD₆ => ?_
        refine ⟨n + 1 - (i + 1), by omega, h₆, tk₅, i + 1, ys ++ [y], _, news₅, rfl, hlt, rfl, by rw [List.length_append, List.length_singleton]; omega, W.frame _ _ _ hst₅ fun b hb o e => hs₆.extBut b o (fun q => hDf (q ▸ hb)) e, F₅.change hs₆ hDL hD₀,
          (hoC₅.ns zC).sameBut hs₆ hCD, fun p hp => ?_, off₅, J₅⟩
        rcases List.mem_cons.mp hp with rfl | hp
        · exact ⟨hD₆.trans (congrArg some (lst_snoc ys y)), hDL, hD₀⟩
        · exact ⟨hs₆.extBut _ _ (off₅ p hp).2.2 (zN p hp).1, (zN p hp).2⟩
      · obtain rfl : i = n := Nat.le_antisymm hi (Nat.not_lt.mp hlt)
        refine W.done _ _ _ hst' fun h₂ tk₂ hk₂ => ?_
        obtain ⟨F₂, hn₂, N₂⟩ := next h₂ hk₂
        exact hRR _ _ h₂ tk₂ _ ys news' F₂ N₂ off' hn₂ hC₀ hCL hCD hJ
    · rcases List.mem_cons.mp hp with rfl | hp
      · exact ⟨hacc, hDL, hD₀⟩
      · exact ⟨old _ _ (N p hp).1, (N p hp).2⟩
  exact codeAny_compStart_list (loop _ rfl) (hself _ _ _ (W.frame _ _ _ hst fun b _ o e => old b o e) (loop _ rfl))
end
end
section
section
open PyProof.Rows.LCg
variable {prog : Program} {w : World} {A : Around} {E : Value → Shared → Prop} {s : Shared} {h₀ : Heap} {m : PySem.Str → Option Value} {env : Env}
noncomputable def CompF (prog : Program) (w : World) (A : Around) (h₀ : Heap) (m : PySem.Str → Option Value) (env : Env) (elt : PySem.Expr) (xn : PySem.Str) (px : Pos) (ifs : List PySem.Expr) (yn : PySem.Str) (scope : Scope) (cl : List (PySem.Str × Addr)) (Q : Flow → Shared → Prop) (it : Value) (s : Shared) : Prop :=
  ∃ (I : Addr) (fp wr : List Addr) (n : Nat) (P : Nat → Value → Prop) (St : Nat → Heap → Prop) (news : Led) (J : Nat → List Value → Led → Prop),
    it = .ref I ∧ Walks prog w A I fp wr n P St ∧ (∀ (s : Shared) (Q : Value → Shared → Prop) (E : Value → Shared → Prop), St 0 s.heap → Q (.ref I) s → wpAny (model prog w) A (pyIter (.ref I)) Q E s) ∧ n ≤ sizeLine ∧
    St 0 s.heap ∧ (∀ b ∈ fp, b < s.heap.objs.size) ∧ Fr h₀ env.locals s.heap m ∧ News h₀ env.locals s.heap news ∧ env.locals ∉ fp ∧ (∀ b ∈ wr, h₀.get? b = none) ∧ (∀ p ∈ news, p.1 ∉ wr) ∧ J 0 [] news ∧
    (∀ i v ys m₁ news₁ h₁ tk₁ own C oC D (E' : Value → Shared → Prop), i < n → P i v → J i ys news₁ → (∀ p ∈ news₁, p.1 ∉ wr ∧ p.1 ≠ C ∧ p.1 ≠ D) → (∀ p ∈ own, p.1 ∈ fp ∧ p.1 ≠ C ∧ p.1 ≠ D) → C ≠ D → C ≠ env.locals → (∀ b ∈ fp, b < D) → h₀.get? C = none → NsObj oC m₁ → Fr h₀ env.locals h₁ m → News h₀ env.locals h₁ (own ++ (C, oC) :: (D, lst ys) :: news₁) →
      wpAny (model prog w) A (assign (.Name xn px) (compEnvC scope cl C env) v) (fun _ s₃ => wpAny (model prog w) A (forIn ifs true fun c r => if r = true then do let ok ← isTrue c (compEnvC scope cl C env) (eval c (compEnvC scope cl C env)); pure (ForInStep.yield ok) else pure (ForInStep.yield r))
        (fun ok s₄ => if ok = true then wpAny (model prog w) A (eval elt (compEnvC scope cl C env)) (TurnEnd h₀ env.locals m { s with heap := h₁, toks := tk₁ } own C D wr ys (J (i + 1))) E' s₄ else SkipEnd h₀ env.locals m { s with heap := h₁, toks := tk₁ } own C D wr ys (J (i + 1)) s₄) E' s₃) E' { s with heap := h₁, toks := tk₁ }) ∧
    ∀ D h tk ys news', Fr h₀ env.locals h (fun z => if z = yn then some (.ref D) else m z) → News h₀ env.locals h ((D, lst ys) :: news') → (∀ p ∈ news', p.1 ≠ D) → J n ys news' → Q .next { s with heap := h, toks := tk }
theorem assign_compF {elt iter : PySem.Expr} {xn yn : PySem.Str} {px py : Pos} {ifs : List PySem.Expr} {scope : Scope} {cl : List (PySem.Str × Addr)} {pos spos : Pos} {Q : Flow → Shared → Prop}
    (hsw : swapsWith (.ListComp elt [⟨.Name xn px, iter, ifs, 0⟩] scope pos) (some (.Name yn py)) spos.line env = pure true)
    (hclos : closureFor scope env = pure cl) (hcell : ∀ z ∈ scope.names, z.2 ≠ .cell) (hkind : scope.kind = .function)
    (hnames : ∀ z ∈ scope.names, z.2 = .local → scope.names.lookup z.1 = some .local)
    (hy : env.kindOf yn = some .local) (hp : (env.scope.kind == .class || (env.scope.kind == .module && env.locals != env.globals)) = false)
    (h : wpAny (model prog w) A (eval iter env) (fun xv s₁ => wpAny (model prog w) A (pyIter xv) (fun it s₂ => CompF prog w A h₀ m env elt xn px ifs yn scope cl Q it s₂) E s₁) E s)
    (hs : ∀ x, foldedSetIterable iter env x = pure x := by intro _; rfl) :
    wpAny (model prog w) A (exec (.Assign [.Name yn py] (.ListComp elt [⟨.Name xn px, iter, ifs, 0⟩] scope pos) spos) env) Q E s := by
  rw [exec_Assign_Name_used _ _ _ _ hsw]
  refine wpAny_bind (wpAny_standAt (wpAny_bind ?_))
  show wpAny _ A (do let _ ← comprehension (.ListComp elt [⟨.Name xn px, iter, ifs, 0⟩] scope pos) scope env _ (newList []) false (eval iter env) (some (assign (.Name yn py) env))) _ _ s
  refine wpAny_bind (wpAny_mono (wpAny_comprehension_free (use := some (assign (.Name yn py) env)) (Q := fun _ s' => Q .next s') rfl hs hclos hkind hnames
    (wpAny_mono h (fun xv s₁ h₁ => wpAny_mono h₁ (fun it s₂ h₂ => ?_) fun _ _ e => e) fun _ _ e => e)) (fun _ s' hq => wpAny_pure (wpAny_pure hq)) fun _ _ e => e)
  obtain ⟨I, fp, wr, n, P, St, news, J, rfl, W, hself, hsz, hst, hfp, F, N, hLf, hwr, off, h0, step, fin⟩ := h₂
  refine comp_turnsF (RR := fun acc C => compPost (model prog w) A E (some (assign (.Name yn py) env)) (fun _ s' => Q .next s') acc C) W hself hsz hcell hkind hst hfp F N hLf hwr off J h0 step ?_
  intro D C h tk m' ys news' F' N' off' hn hC₀ hCL hCD hJ
  show wpAny _ A (assign (.Name yn py) env (.ref D)) _ _ _
  have hL₀ : h₀.get? env.locals = none := Heap.get?_none_of_le F'.above
  refine wpAny_assign_Name (wpAny_storeName_local hy F'.ns (fun h₂ hn₂ hs₂ => ?_) hp)
  refine ⟨m', hn.sameBut hs₂ hCL, fun h₃ hs₃ => fin D h₃ _ ys news' ⟨hn₂.sameBut hs₃ (Ne.symm hCL), fun b o e => hs₃.extBut b o (fun q => by rw [q, hC₀] at e; cases e) (hs₂.extBut b o (fun q => by rw [q, hL₀] at e; cases e) (F'.keep b o e)), F'.above⟩ (fun p hp => ?_) (fun p hp => (off' p hp).2.2) hJ⟩
  refine ⟨hs₃.extBut _ _ ?_ (hs₂.extBut _ _ (N' p hp).2.1 (N' p hp).1), (N' p hp).2⟩
  rcases List.mem_cons.mp hp with rfl | hp
  · exact Ne.symm hCD
  · exact (off' p hp).2.1
/-- its source a list of the ledger -/
theorem compF_list {elt : PySem.Expr} {xn yn : PySem.Str} {px : Pos} {ifs : List PySem.Expr} {scope : Scope} {cl : List (PySem.Str × Addr)} {l : Addr} {vs : List Value} {nl : Nat} {news : Led} {Q : Flow → Shared → Prop} (J : Nat → List Value → Led → Prop)
    (hh : A.handled = none) (hls : s.heap.IsList l vs.toArray) (hlL : l ≠ env.locals) (hz : vs.length ≤ sizeLine) (F : Fr h₀ env.locals s.heap m) (N : News h₀ env.locals s.heap news) (hj : J 0 [] news)
    (turn : ∀ i v ys news₁ h₁ tk₁ own C oC D m₁ (E' : Value → Shared → Prop), vs[i]? = some v → J i ys news₁ → (∀ p ∈ news₁, p.1 ∉ [s.heap.objs.size] ∧ p.1 ≠ C ∧ p.1 ≠ D) → (∀ p ∈ own, p.1 ∈ [s.heap.objs.size, l] ∧ p.1 ≠ C ∧ p.1 ≠ D) → C ≠ D → C ≠ env.locals → (∀ b ∈ [s.heap.objs.size, l], b < D) → h₀.get? C = none → NsObj oC m₁ → Fr h₀ env.locals h₁ m → News h₀ env.locals h₁ (own ++ (C, oC) :: (D, lst ys) :: news₁) →
      wpAny (model prog w) A (assign (.Name xn px) (compEnvC scope cl C env) v) (fun _ s₃ => wpAny (model prog w) A (forIn ifs true fun c r => if r = true then do let ok ← isTrue c (compEnvC scope cl C env) (eval c (compEnvC scope cl C env)); pure (ForInStep.yield ok) else pure (ForInStep.yield r))
        (fun ok s₄ => if ok = true then wpAny (model prog w) A (eval elt (compEnvC scope cl C env)) (TurnEnd h₀ env.locals m { s with heap := h₁, toks := tk₁ } own C D [s.heap.objs.size] ys (J (i + 1))) E' s₄ else SkipEnd h₀ env.locals m { s with heap := h₁, toks := tk₁ } own C D [s.heap.objs.size] ys (J (i + 1)) s₄) E' s₃) E' { s with heap := h₁, toks := tk₁ })
    (done : ∀ D h tk ys news', Fr h₀ env.locals h (fun z => if z = yn then some (.ref D) else m z) → News h₀ env.locals h ((D, lst ys) :: news') → (∀ p ∈ news', p.1 ≠ D) → J vs.length ys news' → Q .next { s with heap := h, toks := tk }) :
    wpAny (model prog w) A (pyIter (.ref l)) (fun it s₂ => CompF prog w A h₀ m env elt xn px ifs yn scope cl Q it s₂) E s := by
  have hls' : l < s.heap.objs.size := by obtain ⟨o, ho, _⟩ := hls; exact Heap.lt_size ho
  refine wpAny_pyIter_list hls ?_
  have up : ∀ b o, s.heap.get? b = some o → (s.heap.push { cls := .type "list_iterator", data := .fields #[.ref l, .int 0 0] }).get? b = some o := fun b o e => Heap.get?_push_of_some _ e
  refine ⟨_, _, _, _, _, _, news, J, rfl, Walks.list (prog := prog) (w := w) hh s.heap.objs.size l (Nat.ne_of_lt hls') vs.toArray, fun _ _ _ st hQ => wpAny_pyIter_listiter st.1 hQ, by simpa using hz, ⟨⟨_, Heap.get?_push_size _ rfl, rfl, rfl⟩, hls.push _⟩, fun b hb => ?_, F.keeps up, N.grown up, fun hm => ?_, fun b hb => ?_, fun p hp hI => ?_, hj, ?_, ?_⟩
  · show b < (s.heap.push _).objs.size
    rw [Heap.size_push]
    rcases List.mem_cons.mp hb with rfl | hb
    · exact Nat.lt_succ_self _
    · rw [List.mem_singleton.mp hb]; exact Nat.lt_succ_of_lt hls'
  · rcases List.mem_cons.mp hm with e | hm
    · exact absurd F.ns.lt (e ▸ Nat.lt_irrefl _)
    · exact hlL (List.mem_singleton.mp hm).symm
  · rw [List.mem_singleton.mp hb]; exact next_is_new F
  · exact absurd (Heap.lt_size (N p hp).1) ((List.mem_singleton.mp hI) ▸ Nat.lt_irrefl _)
  · intro i v ys m₁ news₁ h₁ tk₁ own C oC D E' hin hP hJ offN offO hCD hCL hfp hC₀ hoC F₁ N₁
    exact turn i v ys news₁ h₁ tk₁ own C oC D m₁ E' (by simpa using hP) hJ offN offO hCD hCL hfp hC₀ hoC F₁ N₁
  · intro D h tk ys news' F' N' off' hJ
    exact done D h tk ys news' F' N' off' (by simpa using hJ)
end
end
section
noncomputable def CB : Int := 2 ^ 1024
/-- the script's cells as the pen holds them -/
structure CellsOk (vs : List Value) : Prop where
  nums : ∃ ns : List Int, IntsAre vs ns ∧ ∀ x ∈ ns, 0 ≤ x ∧ x < 2 * 10 ^ 40
  small : vs.length ≤ 30
theorem ints_at {vs : List Value} {ns : List Int} (h : IntsAre vs ns) : ∀ (i : Nat) (v : Value), vs[i]? = some v → ∃ (x : Int) (t : Tok), v = .int x t ∧ x ∈ ns := by
  induction h with
  | nil => intro i v e; cases e
  | cons n t _ ih =>
    intro i v e
    cases i with
    | zero => cases e; exact ⟨n, t, rfl, List.mem_cons_self⟩
    | succ i => obtain ⟨x, t', e1, e2⟩ := ih i v e; exact ⟨x, t', e1, List.mem_cons_of_mem _ e2⟩
theorem CellsOk.at {vs : List Value} (h : CellsOk vs) {i : Nat} {v : Value} (e : vs[i]? = some v) : ∃ (x : Int) (t : Tok), v = .int x t ∧ 0 ≤ x ∧ x < 2 * 10 ^ 40 := by
  obtain ⟨ns, hi, hb⟩ := h.nums
  obtain ⟨x, t, e1, e2⟩ := ints_at hi i v e
  exact ⟨x, t, e1, hb x e2⟩
structure PenIs (Cl : Addr) (k : Nat) (o : Obj) : Prop where
  is : ∃ (tn c : Int) (t1 t2 : Tok) (n : Nat), o = listOf [Value.ref Cl, .int tn t1, .int c t2].toArray n ∧ 0 ≤ tn ∧ tn ≤ (k : Int) ∧ 0 ≤ c ∧ c < CB
theorem bits_le {x : Int} (h0 : 0 ≤ x) (h : x < 2 ^ 140) : PySem.Builtin.Int.intBits x ≤ 140 := by
  unfold PySem.Builtin.Int.intBits
  split
  · exact Nat.zero_le _
  · rename_i hx
    have hne : x.natAbs ≠ 0 := fun e => by
      have : x = 0 := Int.natAbs_eq_zero.mp e
      subst this
      exact hx rfl
    have : x.natAbs.log2 < 140 := (Nat.log2_lt hne).mpr (by
      have : (x.natAbs : Int) < 2 ^ 140 := by rw [Int.natAbs_of_nonneg h0]; exact h
      exact_mod_cast this)
    omega
theorem fdiv_lt {c m : Int} (h0 : 0 ≤ c) (hm : 1 ≤ m) : 0 ≤ c.fdiv m ∧ c.fdiv m ≤ c := by
  rw [Int.fdiv_eq_ediv_of_nonneg _ (by omega)]
  exact ⟨Int.ediv_nonneg h0 (by omega), Int.ediv_le_self _ h0⟩
theorem fmod_lt {c m : Int} (hm : 1 ≤ m) : 0 ≤ c.fmod m ∧ c.fmod m < m := by
  rw [Int.fmod_eq_emod_of_nonneg _ (by omega)]
  exact ⟨Int.emod_nonneg _ (by omega), Int.emod_lt_of_pos _ (by omega)⟩
theorem pow7 {x : Int} (h0 : 0 ≤ x) (h : x < 2 ^ 140) : 0 ≤ x ^ 7 ∧ x ^ 7 + 1000003 < CB := by
  refine ⟨Int.pow_nonneg h0, ?_⟩
  obtain ⟨n, rfl⟩ := Int.eq_ofNat_of_zero_le h0
  have hn : n < 2 ^ 140 := by exact_mod_cast h
  have h7 : n ^ 7 < (2 ^ 140) ^ 7 := Nat.pow_lt_pow_left hn (by decide)
  have h8 : (2 ^ 140) ^ 7 + 1000003 < (2 : Nat) ^ 1024 := by decide +kernel
  have h9 : n ^ 7 + 1000003 < (2 : Nat) ^ 1024 := by omega
  have e : CB = (((2 : Nat) ^ 1024 : Nat) : Int) := by unfold CB; rw [Int.natCast_pow]; rfl
  rw [e, show ((n : Int) ^ 7 + 1000003) = ((n ^ 7 + 1000003 : Nat) : Int) by rw [Int.natCast_add, Int.natCast_pow]; rfl]
  exact Int.ofNat_lt.mpr h9
theorem cb_big : (2 * 10 ^ 40 : Int) < CB := by unfold CB; decide +kernel
theorem draw_end {g h : Heap} {L' Pn Cl : Addr} {m' : PySem.Str → Option Value} {s : Shared} {tn c many : Int} {t t1 t2 : Tok} {n k tk : Nat} (F : Fr g L' h m') (N : News g L' h [(Pn, listOf #[Value.ref Cl, .int tn t1, .int (c.fdiv many) t2] n)])
    (h0 : 0 ≤ tn) (h1 : tn ≤ (k : Int) + 1) (h2 : 0 ≤ c) (h3 : c < CB) (hm : 1 ≤ many) :
    EndR g s (fun tl r => ∃ d t o', 0 ≤ d ∧ d < many ∧ PenIs Cl (k + 1) o' ∧ r = .int d t ∧ tl = [(Pn, o')]) (.ok (.ret (.int (c.fmod many) t))) { s with heap := h, toks := tk } :=
  EndR.sub _ F N (fun q hq => hq) ⟨_, _, _, (fmod_lt hm).1, (fmod_lt hm).2, ⟨tn, c.fdiv many, t1, t2, n, rfl, h0, by omega, (fdiv_lt h2 hm).1, Int.lt_of_le_of_lt (fdiv_lt h2 hm).2 h3⟩, rfl, rfl⟩
theorem pow_sum {x y : Int} (h0 : 0 ≤ x) (h : x < 2 ^ 140) : 0 ≤ x ^ (7 : Int).toNat + y.fmod 1000003 ∧ x ^ (7 : Int).toNat + y.fmod 1000003 < CB := by
  have h1 := pow7 h0 h
  have h2 := fmod_lt (c := y) (m := 1000003) (by decide)
  show 0 ≤ x ^ 7 + y.fmod 1000003 ∧ x ^ 7 + y.fmod 1000003 < CB
  omega
end
section
section
variable {w : World} {A₀ : Around} {Q E : Value → Shared → Prop} {s : Shared} {h₀ base : Heap} {L : Addr} {m mg mb : PySem.Str → Option Value} {hot news cold cold' all rest : Led} {p : Program} {loose : List PySem.Str} {mean : ExcName → Option Value}
  {dp un : Nat} {gd : Option (List Code)} {cn : PySem.Str} {cs : Scope} {a : Addr} {ccd : Value} {cl : List (PySem.Str × Addr)} {outer : List Env}
  {Pn Cl : Addr} {nc k : Nat} {o : Obj} {cvs : List Value} {many : Int} {tm : Tok}
theorem draw_ct (B : Below A₀ base outer h₀) (F : Fr h₀ L s.heap m) (X : (Mine.heap w.params).In h₀) (N : News h₀ L s.heap ((Pn, o) :: news)) (T : Top p loose mean mg mb h₀) (hk : cs.kind = .function)
    (dn : OffA news Pn) (hC : ColdAt s.heap cold) (dc : OffA cold Pn) (hP : PenIs Cl k o) (hCl : (Cl, listOf cvs.toArray nc) ∈ cold) (hcs : CellsOk cvs) (hk1 : k ≤ 1000) (hm1 : 1 ≤ many) (hm2 : many ≤ 12) (hd : dp + 15 < recursionLimit) (hu : un + 120 < cLine)
    (ret : ∀ d t o' h' tk', 0 ≤ d → d < many → PenIs Cl (k + 1) o' → Fr h₀ L h' m → News h₀ L h' ((Pn, o') :: news) → Q (.int d t) { s with heap := h', toks := tk' }) :
    wpAny (model PySem.Challenge.rw_pb0257_01.row.prog w) (ktrTop dp un gd cn cs L a ccd cl outer) (call (.ref 312) [.ref Pn, .int many tm]) Q E s := by
  revert X
  k_fill
  w_on
  intro X
  refine' ct_enter (hot := [(Pn, o)]) (news := news) (cold := cold)
    (Post := fun tl r => ∃ d t o', 0 ≤ d ∧ d < many ∧ PenIs Cl (k + 1) o' ∧ r = .int d t ∧ tl = [(Pn, o')])
    [(S "pen", .ref Pn), (S "many", .int many tm)] B F X N dn.one hC dc.one T hk ?ret ?ho ?hcd ?hroom ?hbind ?hloc ?c1 ?c2 ?c3 ?c4 ?_
  case ret =>
    rintro r tl h' tk' F' N' O' ⟨d, t, o', e1, e2, e3, rfl, rfl⟩
    exact ret d t o' h' tk' e1 e2 e3 F' N'
  case ho => k_is
  case hcd => k_is
  case hroom => k_room
  case hbind => exact BindsTo.of_eq rfl
  case hloc => exact locs rfl
  case c1 => exact rfl
  case c2 => exact rfl
  case c3 => exact rfl
  case c4 => decide
  clear ret N hC
  obtain ⟨tn, c, u1, u2, n, rfl, h0, h1, h2, h3⟩ := hP.is
  intro g' L' h' FG' F' N' hC' B' X' T'
  try dsimp only
  k_fold
  repeat' (first | (k_unfold; (try dsimp only)) | (k_end; wrow_close) | ((fail_if_success (with_reducible show wpAny _ _ (PySem.call (Value.builtin "len") [Value.ref _]) _ _ _)); (fail_if_success (with_reducible show wpAny _ _ (subscriptTail _ _ (Value.ref Cl) _) _ _ _)); (fail_if_success (with_reducible show wpAny _ _ (PySem.call (Value.builtin "sum") _) _ _ _)); (fail_if_success (with_reducible show wpAny _ _ (binaryOp Operator.Pow _ _) _ _ _)); walk1) | ((fail_if_success (with_reducible show wpAny _ _ (PySem.call (Value.builtin "len") [Value.ref _]) _ _ _)); (fail_if_success (with_reducible show wpAny _ _ (subscriptTail _ _ (Value.ref Cl) _) _ _ _)); (fail_if_success (with_reducible show wpAny _ _ (PySem.call (Value.builtin "sum") _) _ _ _)); (fail_if_success (with_reducible show wpAny _ _ (binaryOp Operator.Pow _ _) _ _ _)); dsimp only; (fail_if_success (with_reducible show wpAny _ _ (PySem.call (Value.builtin "len") [Value.ref _]) _ _ _)); (fail_if_success (with_reducible show wpAny _ _ (subscriptTail _ _ (Value.ref Cl) _) _ _ _)); (fail_if_success (with_reducible show wpAny _ _ (PySem.call (Value.builtin "sum") _) _ _ _)); (fail_if_success (with_reducible show wpAny _ _ (binaryOp Operator.Pow _ _) _ _ _)); walk1) | ((fail_if_success (with_reducible show wpAny _ _ (PySem.call (Value.builtin "len") [Value.ref _]) _ _ _)); (fail_if_success (with_reducible show wpAny _ _ (subscriptTail _ _ (Value.ref Cl) _) _ _ _)); (fail_if_success (with_reducible show wpAny _ _ (PySem.call (Value.builtin "sum") _) _ _ _)); (fail_if_success (with_reducible show wpAny _ _ (binaryOp Operator.Pow _ _) _ _ _)); leave1; walk_say "STEP leave1"; try dsimp only) | fail "no step")
  · try dsimp only
    refine m_len (by k_asm) hC' hCl (Nat.le_trans hcs.small (by decide)) ?_
    by_cases hlt : tn < (cvs.length : Int)
    · obtain ⟨v, hv⟩ : ∃ v, cvs[tn.toNat]? = some v := ⟨_, List.getElem?_eq_getElem (by omega)⟩
      obtain ⟨x, tx, rfl, hx0, hx1⟩ := hcs.at hv
      repeat' (first | (k_unfold; (try dsimp only)) | (k_end; wrow_close) | ((fail_if_success (with_reducible show wpAny _ _ (subscriptTail _ _ (Value.ref Cl) _) _ _ _)); walk1) | ((fail_if_success (with_reducible show wpAny _ _ (subscriptTail _ _ (Value.ref Cl) _) _ _ _)); dsimp only; (fail_if_success (with_reducible show wpAny _ _ (subscriptTail _ _ (Value.ref Cl) _) _ _ _)); walk1) | ((fail_if_success (with_reducible show wpAny _ _ (subscriptTail _ _ (Value.ref Cl) _) _ _ _)); leave1; walk_say "STEP leave1"; try dsimp only) | fail "no step")
      try dsimp only
      refine m_item_at (by k_asm) hC' hCl h0 (Nat.le_trans hcs.small (by decide)) hv ?_
      repeat' (first | (k_unfold; (try dsimp only)) | (k_end; wrow_close) | ((fail_if_success (with_reducible show wpAny _ _ (binaryOp Operator.Pow _ _) _ _ _)); walk1) | ((fail_if_success (with_reducible show wpAny _ _ (binaryOp Operator.Pow _ _) _ _ _)); dsimp only; (fail_if_success (with_reducible show wpAny _ _ (binaryOp Operator.Pow _ _) _ _ _)); walk1) | ((fail_if_success (with_reducible show wpAny _ _ (binaryOp Operator.Pow _ _) _ _ _)); leave1; walk_say "STEP leave1"; try dsimp only) | fail "no step")
      · exact draw_end (by assumption) (by assumption) (by omega) (by omega) hx0 (Int.lt_trans hx1 cb_big) hm1
      · try dsimp only
        refine pow_int (by decide) (Int.le_trans (Int.mul_le_mul_of_nonneg_right (Int.ofNat_le.mpr (bits_le (x := x + 2 * tn + 5) (by omega) (by omega))) (by decide)) (by decide)) ?_
        obtain ⟨ns, hns, _⟩ := hcs.nums
        repeat' (first | (k_unfold; (try dsimp only)) | (k_end; wrow_close) | ((fail_if_success (with_reducible show wpAny _ _ (PySem.call (Value.builtin "sum") _) _ _ _)); walk1) | ((fail_if_success (with_reducible show wpAny _ _ (PySem.call (Value.builtin "sum") _) _ _ _)); dsimp only; (fail_if_success (with_reducible show wpAny _ _ (PySem.call (Value.builtin "sum") _) _ _ _)); walk1) | ((fail_if_success (with_reducible show wpAny _ _ (PySem.call (Value.builtin "sum") _) _ _ _)); leave1; walk_say "STEP leave1"; try dsimp only) | fail "no step")
        try dsimp only
        refine sumK (by exact rfl) (by k_asm) (by k_asm) (cold_list (by k_asm) hC' hCl) hns fun h8 tk8 t8 F8 N8 => ?_
        repeat' (first | (k_unfold; (try dsimp only)) | (k_end; wrow_close) | (walk1) | (dsimp only; walk1) | (leave1; walk_say "STEP leave1"; try dsimp only) | fail "no step")
        exact draw_end (by assumption) (by assumption) (by omega) (by omega) (pow_sum (by omega) (by omega)).1 (pow_sum (by omega) (by omega)).2 hm1
    · repeat' (first | (k_unfold; (try dsimp only)) | (k_end; wrow_close) | ((fail_if_success (with_reducible show wpAny _ _ (binaryOp Operator.Pow _ _) _ _ _)); walk1) | ((fail_if_success (with_reducible show wpAny _ _ (binaryOp Operator.Pow _ _) _ _ _)); dsimp only; (fail_if_success (with_reducible show wpAny _ _ (binaryOp Operator.Pow _ _) _ _ _)); walk1) | ((fail_if_success (with_reducible show wpAny _ _ (binaryOp Operator.Pow _ _) _ _ _)); leave1; walk_say "STEP leave1"; try dsimp only) | fail "no step")
      try dsimp only
      refine pow_int (by decide) (Int.le_trans (Int.mul_le_mul_of_nonneg_right (Int.ofNat_le.mpr (bits_le (x := 0 + 2 * tn + 5) (by omega) (by omega))) (by decide)) (by decide)) ?_
      obtain ⟨ns, hns, _⟩ := hcs.nums
      repeat' (first | (k_unfold; (try dsimp only)) | (k_end; wrow_close) | ((fail_if_success (with_reducible show wpAny _ _ (PySem.call (Value.builtin "sum") _) _ _ _)); walk1) | ((fail_if_success (with_reducible show wpAny _ _ (PySem.call (Value.builtin "sum") _) _ _ _)); dsimp only; (fail_if_success (with_reducible show wpAny _ _ (PySem.call (Value.builtin "sum") _) _ _ _)); walk1) | ((fail_if_success (with_reducible show wpAny _ _ (PySem.call (Value.builtin "sum") _) _ _ _)); leave1; walk_say "STEP leave1"; try dsimp only) | fail "no step")
      try dsimp only
      refine sumK (by exact rfl) (by k_asm) (by k_asm) (cold_list (by k_asm) hC' hCl) hns fun h8 tk8 t8 F8 N8 => ?_
      repeat' (first | (k_unfold; (try dsimp only)) | (k_end; wrow_close) | (walk1) | (dsimp only; walk1) | (leave1; walk_say "STEP leave1"; try dsimp only) | fail "no step")
      exact draw_end (by assumption) (by assumption) (by omega) (by omega) (pow_sum (by omega) (by omega)).1 (pow_sum (by omega) (by omega)).2 hm1
  · exact draw_end (by assumption) (by assumption) h0 (by omega) h2 h3 hm1
end
end
section
section
variable {w : World} {A₀ : Around} {Q E : Value → Shared → Prop} {s : Shared} {h₀ base : Heap} {L : Addr} {m mg mb : PySem.Str → Option Value} {hot news cold cold' all rest : Led} {p : Program} {loose : List PySem.Str} {mean : ExcName → Option Value}
  {dp un : Nat} {gd : Option (List Code)} {cn : PySem.Str} {cs : Scope} {a : Addr} {ccd : Value} {cl : List (PySem.Str × Addr)} {outer : List Env}
  {Pn Cl Sl : Addr} {nc k nsl : Nat} {o : Obj} {cvs svs : List Value}
theorem pick_ct (B : Below A₀ base outer h₀) (F : Fr h₀ L s.heap m) (X : (Mine.heap w.params).In h₀) (N : News h₀ L s.heap ((Pn, o) :: news)) (T : Top p loose mean mg mb h₀) (hk : cs.kind = .function)
    (dn : OffA news Pn) (hC : ColdAt s.heap cold) (dc : OffA cold Pn) (hP : PenIs Cl k o) (hCl : (Cl, listOf cvs.toArray nc) ∈ cold) (hcs : CellsOk cvs) (hS : (Sl, listOf svs.toArray nsl) ∈ cold) (hk1 : k ≤ 1000) (hm1 : 1 ≤ svs.length) (hm2 : svs.length ≤ 12) (hd : dp + 20 < recursionLimit) (hu : un + 160 < cLine)
    (ret : ∀ (i : Nat) v o' h' tk', svs[i]? = some v → PenIs Cl (k + 1) o' → Fr h₀ L h' m → News h₀ L h' ((Pn, o') :: news) → Q v { s with heap := h', toks := tk' }) :
    wpAny (model PySem.Challenge.rw_pb0257_01.row.prog w) (ktrTop dp un gd cn cs L a ccd cl outer) (call (.ref 319) [.ref Pn, .ref Sl]) Q E s := by
  revert X
  k_fill
  w_on
  intro X
  refine' ct_enter (hot := [(Pn, o)]) (news := news) (cold := cold)
    (Post := fun tl r => ∃ (i : Nat) (o' : Obj), svs[i]? = some r ∧ PenIs Cl (k + 1) o' ∧ tl = [(Pn, o')])
    [(S "pen", .ref Pn), (S "some", .ref Sl)] B F X N dn.one hC dc.one T hk ?ret ?ho ?hcd ?hroom ?hbind ?hloc ?c1 ?c2 ?c3 ?c4 ?_
  case ret =>
    rintro r tl h' tk' F' N' O' ⟨i, o', e1, e2, rfl⟩
    exact ret i r o' h' tk' e1 e2 F' N'
  case ho => k_is
  case hcd => k_is
  case hroom => k_room
  case hbind => exact BindsTo.of_eq rfl
  case hloc => exact locs rfl
  case c1 => exact rfl
  case c2 => exact rfl
  case c3 => exact rfl
  case c4 => decide
  clear ret N hC
  intro g' L' h' FG' F' N' hC' B' X' T'
  try dsimp only
  k_fold
  repeat' (first | (k_unfold; (try dsimp only)) | (k_end; wrow_close) | ((fail_if_success (with_reducible show wpAny _ _ (PySem.call (Value.builtin "len") [Value.ref _]) _ _ _)); walk1) | ((fail_if_success (with_reducible show wpAny _ _ (PySem.call (Value.builtin "len") [Value.ref _]) _ _ _)); dsimp only; (fail_if_success (with_reducible show wpAny _ _ (PySem.call (Value.builtin "len") [Value.ref _]) _ _ _)); walk1) | ((fail_if_success (with_reducible show wpAny _ _ (PySem.call (Value.builtin "len") [Value.ref _]) _ _ _)); leave1; walk_say "STEP leave1"; try dsimp only) | fail "no step")
  try dsimp only
  refine m_len (by k_asm) hC' hS (by omega) ?_
  repeat' (first | (k_unfold; (try dsimp only)) | (k_end; wrow_close) | ((fail_if_success (with_reducible show wpAny _ _ (PySem.call (Value.ref 312) _) _ _ _)); walk1) | ((fail_if_success (with_reducible show wpAny _ _ (PySem.call (Value.ref 312) _) _ _ _)); dsimp only; (fail_if_success (with_reducible show wpAny _ _ (PySem.call (Value.ref 312) _) _ _ _)); walk1) | ((fail_if_success (with_reducible show wpAny _ _ (PySem.call (Value.ref 312) _) _ _ _)); leave1; walk_say "STEP leave1"; try dsimp only) | fail "no step")
  refine' draw_ct (cold := cold) (news := []) (k := k) (o := o) ?B ?F ?X ?N ?T ?hk OffA.nil ?hC dc hP hCl hcs hk1 (by omega) (by omega) ?hd ?hu ?_
  case B => k_asm
  case F => k_asm
  case X => k_asm
  case N => k_asm
  case T => k_asm
  case hk => exact rfl
  case hC => exact hC'.keeps (Fr.keep (by assumption))
  case hd => ktr_room
  case hu => ktr_units
  intro d t o' h2 tk2 hd0 hd1 hP2 F2 N2
  obtain ⟨v, hv⟩ : ∃ v, svs[d.toNat]? = some v := ⟨_, List.getElem?_eq_getElem (by omega)⟩
  repeat' (first | (k_unfold; (try dsimp only)) | (k_end; wrow_close) | ((fail_if_success (with_reducible show wpAny _ _ (subscriptTail _ _ (Value.ref _) _) _ _ _)); walk1) | ((fail_if_success (with_reducible show wpAny _ _ (subscriptTail _ _ (Value.ref _) _) _ _ _)); dsimp only; (fail_if_success (with_reducible show wpAny _ _ (subscriptTail _ _ (Value.ref _) _) _ _ _)); walk1) | ((fail_if_success (with_reducible show wpAny _ _ (subscriptTail _ _ (Value.ref _) _) _ _ _)); leave1; walk_say "STEP leave1"; try dsimp only) | fail "no step")
  try dsimp only
  refine m_item_at (by k_asm) hC' hS hd0 (by omega) hv ?_
  repeat' (first | (k_unfold; (try dsimp only)) | (k_end; wrow_close) | (walk1) | (dsimp only; walk1) | (leave1; walk_say "STEP leave1"; try dsimp only) | fail "no step")
  exact EndR.sub [(Pn, o')] (by assumption) (by assumption) (fun q hq => hq) ⟨_, o', hv, hP2, rfl⟩
end
end
section
noncomputable def PhrOne (l : Led) (v : Value) : Prop := ∃ (T A Z : Addr) (avs svs : List Value) (n1 n2 n3 : Nat) (able : List Key), v = .ref T ∧ (T, tupObj [.ref A, .ref Z] n1) ∈ l ∧ (A, listOf avs.toArray n2) ∈ l ∧ (Z, listOf svs.toArray n3) ∈ l ∧ KeysAre avs able ∧ svs.length = 2 ∧
    ∀ (j : Nat) (x : Value), svs[j]? = some x → ∃ (sp : Sp) (t : Tok), x = .str sp.text t ∧ sp ≠ .sco ∧ sp.able = able
theorem PhrOne.mono {l l' : Led} {v : Value} (h : PhrOne l v) (hs : ∀ q ∈ l, q ∈ l') : PhrOne l' v := by
  obtain ⟨T, A, Z, avs, svs, n1, n2, n3, able, e, a, b, c, d⟩ := h
  exact ⟨T, A, Z, avs, svs, n1, n2, n3, able, e, hs _ a, hs _ b, hs _ c, d⟩
structure PhrAre (l : Led) (vs : List Value) : Prop where
  len : vs.length = 10
  all : ∀ v ∈ vs, PhrOne l v
theorem KeysAre.nil : KeysAre [] [] := ⟨rfl, Nat.zero_le _, fun i v h => by cases h⟩
theorem KeysAre.cons {vs : List Value} {ks : List Key} {t : Tok} {k : Key} {x : PySem.Str} (hx : x = k.str) (hz : vs.length < 100) (r : KeysAre vs ks) : KeysAre (.str x t :: vs) (k :: ks) := by
  subst hx
  refine ⟨congrArg (· + 1) r.len, hz, fun i v e => ?_⟩
  cases i with
  | zero => cases e; exact ⟨k, t, rfl, rfl⟩
  | succ i => exact r.get i v e
theorem sp2 {a b : Sp} {x y : PySem.Str} {t u : Tok} {able : List Key} (hx : x = a.text) (hy : y = b.text) (ha : a ≠ .sco) (hb : b ≠ .sco) (ea : a.able = able) (eb : b.able = able) : ∀ (j : Nat) (v : Value), [Value.str x t, Value.str y u][j]? = some v → ∃ (sp : Sp) (t : Tok), v = .str sp.text t ∧ sp ≠ .sco ∧ sp.able = able := fun j v e => by
  subst hx hy
  match j, e with
  | 0, e => cases e; exact ⟨a, t, rfl, ha, ea⟩
  | 1, e => cases e; exact ⟨b, u, rfl, hb, eb⟩
/-- a row of the table in _law_phrases -/
noncomputable def TblRow (k p o : PySem.Str) : Prop := ∃ (kk nk : Key) (a b c d : Sp), k = kk.str ∧ S "not " ++ k = nk.str ∧ p = a.text ∧ o = b.text ∧ S "NOT " ++ p = c.text ∧ S "NOT " ++ o = d.text ∧ a.able = [kk] ∧ b.able = [kk] ∧ c.able = [nk] ∧ d.able = [nk] ∧ a ≠ .sco ∧ b ≠ .sco ∧ c ≠ .sco ∧ d ≠ .sco
theorem tbl0 : TblRow (S "size") (S "SIZE ERROR") (S "ON SIZE ERROR") := ⟨.size, .nsize, .ssier, .sonsier, .snosier, .snoonsier, rfl, by decide +kernel, rfl, rfl, by decide +kernel, by decide +kernel, rfl, rfl, rfl, rfl, nofun, nofun, nofun, nofun⟩
theorem tbl1 : TblRow (S "end") (S "AT END") (S "END") := ⟨.done, .ndone, .saten, .sen, .snoaten, .snoen, rfl, by decide +kernel, rfl, rfl, by decide +kernel, by decide +kernel, rfl, rfl, rfl, rfl, nofun, nofun, nofun, nofun⟩
theorem tbl2 : TblRow (S "invalid") (S "INVALID") (S "INVALID KEY") := ⟨.inv, .ninv, .sin, .sinke, .snoin, .snoinke, rfl, by decide +kernel, rfl, rfl, by decide +kernel, by decide +kernel, rfl, rfl, rfl, rfl, nofun, nofun, nofun, nofun⟩
noncomputable def phmap (u : PySem.Str → Option Value) (Fl : Addr) : PySem.Str → Option Value := fun z => if ([S "key", S "plain", S "other"] : List PySem.Str).contains z then u z else if z = S "found" then some (Value.ref Fl) else List.lookup z ([] : List (PySem.Str × Value)).reverse
noncomputable def PhrJ (keep : Led) (Fl : Addr) (i : Nat) (mm : PySem.Str → Option Value) (nx : Led) : Prop := ∃ (u : PySem.Str → Option Value) (items : List Value) (n : Nat) (extras : Led), mm = phmap u Fl ∧ (Fl, listOf items.toArray n) ∈ nx ∧ (∀ q ∈ keep, q ∈ nx) ∧ (∀ q ∈ extras, q ∈ nx) ∧ items.length = 2 * i ∧ (∀ v ∈ items, PhrOne extras v) ∧ OffA extras Fl
theorem phr_start {g h : Heap} {L T0 T1 T2 T3 Fl : Addr} {a1 a2 a3 b1 b2 b3 c1 c2 c3 : Tok} (N : News g L h [(T0, tupObj [.ref T1, .ref T2, .ref T3] 0), (T3, tupObj [.str (S "invalid") a1, .str (S "INVALID") a2, .str (S "INVALID KEY") a3] 0), (T2, tupObj [.str (S "end") b1, .str (S "AT END") b2, .str (S "END") b3] 0),
      (T1, tupObj [.str (S "size") c1, .str (S "SIZE ERROR") c2, .str (S "ON SIZE ERROR") c3] 0), (Fl, listOf ([] : List Value).toArray 0)]) :
    ∃ (F0 : Addr), F0 = Fl ∧ ∃ (vs : List Value) (keep : Led), (T0, tupObj vs 0) ∈ keep ∧ vs.length = 3 ∧ AllTup keep ∧ News g L h ((F0, listOf ([] : List Value).toArray 0) :: keep) ∧
      ∀ (i : Nat) (v : Value), vs[i]? = some v → ∃ (T : Addr) (k p o : PySem.Str) (t1 t2 t3 : Tok), v = .ref T ∧ (T, tupObj [.str k t1, .str p t2, .str o t3] 0) ∈ keep ∧ TblRow k p o := by
  refine ⟨Fl, rfl, [.ref T1, .ref T2, .ref T3], [(T0, tupObj [.ref T1, .ref T2, .ref T3] 0), (T3, tupObj [.str (S "invalid") a1, .str (S "INVALID") a2, .str (S "INVALID KEY") a3] 0), (T2, tupObj [.str (S "end") b1, .str (S "AT END") b2, .str (S "END") b3] 0),
      (T1, tupObj [.str (S "size") c1, .str (S "SIZE ERROR") c2, .str (S "ON SIZE ERROR") c3] 0)], .head _, rfl, .cons rfl (.cons rfl (.cons rfl (.cons rfl fun _ h => nomatch h))), fun q hq => N q ?_, fun i v e => ?_⟩
  · rcases List.mem_cons.mp hq with rfl | hq
    · simp
    · simp only [List.mem_cons] at hq ⊢
      rcases hq with hq | hq | hq | hq | hq
      · exact .inl hq
      · exact .inr (.inl hq)
      · exact .inr (.inr (.inl hq))
      · exact .inr (.inr (.inr (.inl hq)))
      · cases hq
  · match i, e with
    | 0, e => cases e; exact ⟨T1, _, _, _, c1, c2, c3, rfl, by simp, tbl0⟩
    | 1, e => cases e; exact ⟨T2, _, _, _, b1, b2, b3, rfl, by simp, tbl1⟩
    | 2, e => cases e; exact ⟨T3, _, _, _, a1, a2, a3, rfl, by simp, tbl2⟩
theorem phr_fold {g h : Heap} {L T A Z Fl I : Addr} {oF it : Obj} {tl : Led} {avs svs : List Value} {n1 n2 n3 : Nat} {able : List Key} (N : News g L h ((Fl, oF) :: (T, tupObj [.ref A, .ref Z] n1) :: (Z, listOf svs.toArray n3) :: (A, listOf avs.toArray n2) :: (I, it) :: tl))
    (oF' : OffA tl Fl) (oI : OffA tl I) (d : T ≠ Fl ∧ Z ≠ Fl ∧ A ≠ Fl ∧ T ≠ I ∧ Z ≠ I ∧ A ≠ I) (hK : KeysAre avs able) (h2 : svs.length = 2)
    (hs : ∀ (j : Nat) (x : Value), svs[j]? = some x → ∃ (sp : Sp) (t : Tok), x = .str sp.text t ∧ sp ≠ .sco ∧ sp.able = able) :
    ∃ tl2, News g L h ((Fl, oF) :: (I, it) :: tl2) ∧ (∀ q ∈ tl, q ∈ tl2) ∧ PhrOne tl2 (.ref T) ∧ OffA tl2 Fl ∧ OffA tl2 I := by
  obtain ⟨d1, d2, d3, d4, d5, d6⟩ := d
  refine ⟨(T, tupObj [.ref A, .ref Z] n1) :: (Z, listOf svs.toArray n3) :: (A, listOf avs.toArray n2) :: tl, fun q hq => N q ?_, fun q hq => .tail _ (.tail _ (.tail _ hq)), ⟨T, A, Z, avs, svs, n1, n2, n3, able, rfl, .head _, .tail _ (.tail _ (.head _)), .tail _ (.head _), hK, h2, hs⟩, OffA.cons d1 (OffA.cons d2 (OffA.cons d3 oF')), OffA.cons d4 (OffA.cons d5 (OffA.cons d6 oI))⟩
  simp only [List.mem_cons] at hq ⊢
  rcases hq with hq | hq | hq | hq | hq | hq
  · exact .inl hq
  · exact .inr (.inr (.inr (.inr (.inl hq))))
  · exact .inr (.inl hq)
  · exact .inr (.inr (.inl hq))
  · exact .inr (.inr (.inr (.inl hq)))
  · exact .inr (.inr (.inr (.inr (.inr hq))))
/-- the same where no iterator stands -/
theorem phr_fold0 {g h : Heap} {L T A Z Fl : Addr} {oF : Obj} {tl : Led} {avs svs : List Value} {n1 n2 n3 : Nat} {able : List Key} (N : News g L h ((Fl, oF) :: (T, tupObj [.ref A, .ref Z] n1) :: (Z, listOf svs.toArray n3) :: (A, listOf avs.toArray n2) :: tl))
    (oF' : OffA tl Fl) (d : T ≠ Fl ∧ Z ≠ Fl ∧ A ≠ Fl) (hK : KeysAre avs able) (h2 : svs.length = 2)
    (hs : ∀ (j : Nat) (x : Value), svs[j]? = some x → ∃ (sp : Sp) (t : Tok), x = .str sp.text t ∧ sp ≠ .sco ∧ sp.able = able) :
    ∃ tl2, News g L h ((Fl, oF) :: tl2) ∧ (∀ q ∈ tl, q ∈ tl2) ∧ PhrOne tl2 (.ref T) ∧ OffA tl2 Fl :=
  ⟨(T, tupObj [.ref A, .ref Z] n1) :: (Z, listOf svs.toArray n3) :: (A, listOf avs.toArray n2) :: tl, N, fun q hq => .tail _ (.tail _ (.tail _ hq)), ⟨T, A, Z, avs, svs, n1, n2, n3, able, rfl, .head _, .tail _ (.tail _ (.head _)), .tail _ (.head _), hK, h2, hs⟩, OffA.cons d.1 (OffA.cons d.2.1 (OffA.cons d.2.2 oF'))⟩
theorem sp_len4 (sp : Sp) : (S "NOT ").length + sp.text.length ≤ sizeLine := by cases sp <;> exact Nat.le_of_ble_eq_true (by decide)
theorem key_len4 (k : Key) : (S "not ").length + k.str.length ≤ sizeLine := by cases k <;> exact Nat.le_of_ble_eq_true (by decide)
theorem phst_ne {z : PySem.Str} (hz : ([S "key", S "plain", S "other"] : List PySem.Str).contains z = false) : z ≠ S "key" ∧ z ≠ S "plain" ∧ z ≠ S "other" := by
  refine ⟨fun e => ?_, fun e => ?_, fun e => ?_⟩ <;> (subst e; revert hz; decide)
theorem phmap_turn {u : PySem.Str → Option Value} {Fl : Addr} {x1 x2 x3 : Option Value} : (fun y => if y = S "other" then x1 else if y = S "plain" then x2 else if y = S "key" then x3 else phmap u Fl y) =
    phmap (fun y => if y = S "other" then x1 else if y = S "plain" then x2 else if y = S "key" then x3 else phmap u Fl y) Fl := by
  funext z
  conv => rhs; unfold phmap
  cases e : ([S "key", S "plain", S "other"] : List PySem.Str).contains z with
  | true => rw [if_pos (rfl : true = true)]; rfl
  | false =>
    obtain ⟨h1, h2, h3⟩ := phst_ne e
    rw [if_neg Bool.false_ne_true, if_neg h3, if_neg h2, if_neg h1]
    unfold phmap
    rw [e, if_neg Bool.false_ne_true]
theorem phr_turn_end {g h : Heap} {L I Fl : Addr} {it : Obj} {s : Shared} {u : PySem.Str → Option Value} {x1 x2 x3 : Option Value} {items : List Value} {v1 v2 : Value} {keep tl1 tl2 tl3 : Led} {i n tk : Nat}
    (F : Fr g L h fun y => if y = S "other" then x1 else if y = S "plain" then x2 else if y = S "key" then x3 else phmap u Fl y) (N : News g L h ((Fl, listOf (items ++ [v1] ++ [v2]).toArray n) :: (I, it) :: tl3))
    (hK : ∀ q ∈ keep, q ∈ tl1) {extras : Led} (hX : ∀ q ∈ extras, q ∈ tl1) (s2 : ∀ q ∈ tl1, q ∈ tl2) (s3 : ∀ q ∈ tl2, q ∈ tl3) (hl : items.length = 2 * i) (hall : ∀ v ∈ items, PhrOne extras v) (p1 : PhrOne tl2 v1) (p2 : PhrOne tl3 v2) (oF : OffA tl3 Fl) (oI : OffA tl3 I) (hIF : I ≠ Fl) :
    UnrEnd g L s I it (PhrJ keep Fl (i + 1)) { s with heap := h, toks := tk } := by
  refine UnrEnd.intro F N ((Fl, listOf (items ++ [v1] ++ [v2]).toArray n) :: tl3) (fun q hq => ?_) (fun q hq => ?_) ⟨_, items ++ [v1] ++ [v2], n, tl3, phmap_turn, .head _, fun q hq => .tail _ (s3 _ (s2 _ (hK _ hq))), fun q hq => .tail _ hq, ?_, fun v hv => ?_, oF⟩
  · simp only [List.mem_cons] at hq ⊢
    rcases hq with hq | hq | hq
    · exact .inr (.inl hq)
    · exact .inl hq
    · exact .inr (.inr hq)
  · rcases List.mem_cons.mp hq with rfl | hq
    · exact Ne.symm hIF
    · exact oI q hq
  · simp only [List.length_append, List.length_singleton]; omega
  · simp only [List.mem_append, List.mem_singleton] at hv
    rcases hv with (hv | rfl) | rfl
    · exact (hall v hv).mono fun q hq => s3 _ (s2 _ (hX _ hq))
    · exact p1.mono s3
    · exact p2
theorem phr_end {g h : Heap} {L D X T A Z Fl : Addr} {m' : PySem.Str → Option Value} {s : Shared} {oX oF : Obj} {tl : Led} {items avs svs : List Value} {n n1 n2 n3 tk : Nat} {able : List Key}
    (F : Fr g L h m') (N : News g L h ((D, listOf (items ++ [Value.ref T]).toArray n) :: (X, oX) :: (T, tupObj [.ref A, .ref Z] n1) :: (Z, listOf svs.toArray n3) :: (A, listOf avs.toArray n2) :: (Fl, oF) :: tl))
    (hl : items.length = 9) (hall : ∀ v ∈ items, PhrOne tl v) (hK : KeysAre avs able) (h2 : svs.length = 2) (hs : ∀ (j : Nat) (x : Value), svs[j]? = some x → ∃ (sp : Sp) (t : Tok), x = .str sp.text t ∧ sp ≠ .sco ∧ sp.able = able) :
    EndR g s (fun tl r => ∃ D vs n extras, r = .ref D ∧ tl = (D, listOf vs.toArray n) :: extras ∧ PhrAre extras vs) (.ok (.ret (.ref D))) { s with heap := h, toks := tk } := by
  refine EndR.sub _ F N (fun q hq => hq) ⟨D, items ++ [.ref T], n, _, rfl, rfl, ⟨by rw [List.length_append, hl]; rfl, fun v hv => ?_⟩⟩
  rcases List.mem_append.mp hv with hv | hv
  · exact (hall v hv).mono fun q hq => .tail _ (.tail _ (.tail _ (.tail _ (.tail _ hq))))
  · rw [List.mem_singleton.mp hv]
    exact ⟨T, A, Z, avs, svs, n1, n2, n3, able, rfl, .tail _ (.head _), .tail _ (.tail _ (.tail _ (.head _))), .tail _ (.tail _ (.head _)), hK, h2, hs⟩
end
section
section
variable {w : World} {A₀ : Around} {Q E : Value → Shared → Prop} {s : Shared} {h₀ base : Heap} {L : Addr} {m mg mb : PySem.Str → Option Value} {hot news cold cold' all rest : Led} {p : Program} {loose : List PySem.Str} {mean : ExcName → Option Value}
  {dp un : Nat} {gd : Option (List Code)} {cn : PySem.Str} {cs : Scope} {a : Addr} {ccd : Value} {cl : List (PySem.Str × Addr)} {outer : List Env}
theorem phrases_ct (B : Below A₀ base outer h₀) (F : Fr h₀ L s.heap m) (X : (Mine.heap w.params).In h₀) (N : News h₀ L s.heap news) (T : Top p loose mean mg mb h₀) (hk : cs.kind = .function) (hd : dp + 20 < recursionLimit) (hu : un + 160 < cLine)
    (ret : ∀ D vs n extras h' tk', Fr h₀ L h' m → News h₀ L h' ((D, listOf vs.toArray n) :: (extras ++ news)) → PhrAre extras vs → Off news ((D, listOf vs.toArray n) :: extras) → Q (.ref D) { s with heap := h', toks := tk' }) :
    wpAny (model PySem.Challenge.rw_pb0257_01.row.prog w) (ktrTop dp un gd cn cs L a ccd cl outer) (call (.ref 336) []) Q E s := by
  revert X
  k_fill
  w_on
  intro X
  refine' ct_enter (hot := []) (news := news) (cold := [])
    (Post := fun tl r => ∃ D vs n extras, r = .ref D ∧ tl = (D, listOf vs.toArray n) :: extras ∧ PhrAre extras vs)
    [] B F X N (fun _ _ _ hp => nomatch hp) (fun _ hq => nomatch hq) (fun _ _ _ hp => nomatch hp) T hk ?ret ?ho ?hcd ?hroom ?hbind ?hloc ?c1 ?c2 ?c3 ?c4 ?_
  case ret =>
    rintro r tl h' tk' F' N' O' ⟨D, vs, n, extras, rfl, rfl, e2⟩
    exact ret D vs n extras h' tk' F' N' e2 fun q hq => O' q (List.mem_append_left _ hq)
  case ho => k_is
  case hcd => k_is
  case hroom => k_room
  case hbind => exact BindsTo.of_eq rfl
  case hloc => exact locs rfl
  case c1 => exact rfl
  case c2 => exact rfl
  case c3 => exact rfl
  case c4 => decide
  clear ret N
  intro g' L' h' FG' F' N' hC' B' X' T'
  try dsimp only
  k_fold
  repeat' (first | (k_unfold; (try dsimp only)) | (k_end; wrow_close) | ((fail_if_success (with_reducible show wpAny _ _ (exec (Stmt.For _ _ _ _ _) _) _ _ _)); walk1; (try dsimp only)) | ((fail_if_success (with_reducible show wpAny _ _ (exec (Stmt.For _ _ _ _ _) _) _ _ _)); dsimp only; (fail_if_success (with_reducible show wpAny _ _ (exec (Stmt.For _ _ _ _ _) _) _ _ _)); walk1) | ((fail_if_success (with_reducible show wpAny _ _ (exec (Stmt.For _ _ _ _ _) _) _ _ _)); leave1; walk_say "STEP leave1"; try dsimp only) | fail "no step")
  rename_i kF kN
  refine For_turns kF ?_
  repeat' (first | (k_unfold; (try dsimp only)) | (k_end; wrow_close) | ((fail_if_success (with_reducible show wpAny _ _ (pyIter (Value.ref _)) _ _ _)); walk1; (try dsimp only)) | ((fail_if_success (with_reducible show wpAny _ _ (pyIter (Value.ref _)) _ _ _)); dsimp only; (fail_if_success (with_reducible show wpAny _ _ (pyIter (Value.ref _)) _ _ _)); walk1) | ((fail_if_success (with_reducible show wpAny _ _ (pyIter (Value.ref _)) _ _ _)); leave1; walk_say "STEP leave1"; try dsimp only) | fail "no step")
  rename_i kF1 kN1 _
  obtain ⟨Fl, hFl, vs, keep, mT0, hvl, aK, N2, hrow⟩ := phr_start kN1
  subst hFl
  try clear kN1
  refine loop_ltup (vs := vs) (nl := 0) (PhrJ keep _) (by exact rfl) (.tail _ mT0) (fun i m nx hJ => by obtain ⟨u, items, n, extras, _, _, hk, _⟩ := hJ; exact hk _ mT0) kF1 N2 ⟨fun y => if y = S "found" then some (Value.ref _) else List.lookup y ([] : List (PySem.Str × Value)).reverse, [], 0, [], by funext z; exact (ite_self _).symm, .head _, fun q hq => .tail _ hq, fun q hq => (nomatch hq), rfl, fun v hv => (nomatch hv), OffA.nil⟩ ?turn ?done
  case turn =>
    clear kF1 N2
    rintro i v m₁ nx I it h tk3 hv hit ⟨u, items, n, extras, rfl, mF, mK, mX, hln, hit2, oX⟩ hoff F1 N1
    obtain ⟨T, k, p1, o1, t1, t2, t3, rfl, mT, kk, nk, a1, b1, c1, d1, e1, e2, e3, e4, e5, e6, ea, eb, ec, ed, na, nb, nc, nd⟩ := hrow i v hv
    refine asg3 (by exact rfl) ⟨_, (N1 _ (.tail _ (mK _ mT))).1, rfl, _, rfl⟩ rfl rfl rfl rfl F1.ns fun h2 tk2 hn2 hk2 => ?_
    obtain ⟨tl, hK0, hX0, N3, oF, oI⟩ : ∃ tl : Led, (∀ q ∈ keep, q ∈ tl) ∧ (∀ q ∈ extras, q ∈ tl) ∧ News g' L' h ((I, it) :: (Fl, listOf items.toArray n) :: tl) ∧ OffA tl Fl ∧ OffA tl I :=
      ⟨keep ++ extras, fun q hq => List.mem_append_left _ hq, fun q hq => List.mem_append_right _ hq, fun q hq => N1 q (by
        simp only [List.mem_cons, List.mem_append] at hq ⊢
        rcases hq with hq | rfl | hq | hq
        · exact .inl hq
        · exact .inr mF
        · exact .inr (mK _ hq)
        · exact .inr (mX _ hq)), (off_tup N1 (.tail _ mF) (fun q hq => .tail _ (mK q hq)) aK (cls_ne rfl)).app oX, fun q hq e => hoff q ((List.mem_append.mp hq).elim (mK q) (mX q)) e⟩
    have hIF : I ≠ Fl := fun e => hoff _ mF e.symm
    obtain ⟨F4, N4⟩ := fr_after F1 N3 hn2 hk2
    change Fr g' L' h2 _ at F4
    change News g' L' h2 _ at N4
    clear N1 N3 F1 hk2 hn2 mF mK mX hoff
    have hz : items.length ≤ 100 := by
      have := (List.getElem?_eq_some_iff.mp hv).1
      omega
    repeat' (first | (k_unfold; (try dsimp only)) | (k_end; wrow_close) | ((fail_if_success (with_reducible show wpAny _ _ (PySem.call (Value.builtin "list.append") [Value.ref _, _]) _ _ _)); walk1; (try dsimp only)) | ((fail_if_success (with_reducible show wpAny _ _ (PySem.call (Value.builtin "list.append") [Value.ref _, _]) _ _ _)); dsimp only; (fail_if_success (with_reducible show wpAny _ _ (PySem.call (Value.builtin "list.append") [Value.ref _, _]) _ _ _)); walk1) | ((fail_if_success (with_reducible show wpAny _ _ (PySem.call (Value.builtin "list.append") [Value.ref _, _]) _ _ _)); leave1; walk_say "STEP leave1"; try dsimp only) | fail "no step")
    try dsimp only
    refine l_append (B := Fl) (by k_asm) (by k_asm) (by repeat (first | with_reducible exact Pick.here | apply Pick.there)) (by repeat' (first | exact oF | refine OffA.cons (by first | assumption | k_ne) ?_)) (by omega) fun h5 F5 N5 => ?_
    obtain ⟨tl2, N6, s2, hp1, oF2, oI2⟩ := phr_fold N5 oF oI ⟨by k_ne, by k_ne, by k_ne, by k_ne, by k_ne, by k_ne⟩ (KeysAre.cons e1 (Nat.le_of_ble_eq_true rfl) KeysAre.nil) rfl (sp2 e3 e4 na nb ea eb)
    clear N5 oF oI
    repeat' (first | (k_unfold; (try dsimp only)) | (k_end; wrow_close) | ((fail_if_success (with_reducible show wpAny _ _ (PySem.call (Value.builtin "list.append") [Value.ref _, _]) _ _ _)); (fail_if_success (with_reducible show wpAny _ _ (binaryOp Operator.Add (Value.str _ _) (Value.str _ _)) _ _ _)); walk1; (try dsimp only)) | ((fail_if_success (with_reducible show wpAny _ _ (PySem.call (Value.builtin "list.append") [Value.ref _, _]) _ _ _)); (fail_if_success (with_reducible show wpAny _ _ (binaryOp Operator.Add (Value.str _ _) (Value.str _ _)) _ _ _)); dsimp only; (fail_if_success (with_reducible show wpAny _ _ (PySem.call (Value.builtin "list.append") [Value.ref _, _]) _ _ _)); (fail_if_success (with_reducible show wpAny _ _ (binaryOp Operator.Add (Value.str _ _) (Value.str _ _)) _ _ _)); walk1) | ((fail_if_success (with_reducible show wpAny _ _ (PySem.call (Value.builtin "list.append") [Value.ref _, _]) _ _ _)); (fail_if_success (with_reducible show wpAny _ _ (binaryOp Operator.Add (Value.str _ _) (Value.str _ _)) _ _ _)); leave1; walk_say "STEP leave1"; try dsimp only) | fail "no step")
    try dsimp only
    refine PyProof.Rows.add_str (fun t4 tk4 => ?_) (by rw [e1]; exact key_len4 kk)
    repeat' (first | (k_unfold; (try dsimp only)) | (k_end; wrow_close) | ((fail_if_success (with_reducible show wpAny _ _ (PySem.call (Value.builtin "list.append") [Value.ref _, _]) _ _ _)); (fail_if_success (with_reducible show wpAny _ _ (binaryOp Operator.Add (Value.str _ _) (Value.str _ _)) _ _ _)); walk1; (try dsimp only)) | ((fail_if_success (with_reducible show wpAny _ _ (PySem.call (Value.builtin "list.append") [Value.ref _, _]) _ _ _)); (fail_if_success (with_reducible show wpAny _ _ (binaryOp Operator.Add (Value.str _ _) (Value.str _ _)) _ _ _)); dsimp only; (fail_if_success (with_reducible show wpAny _ _ (PySem.call (Value.builtin "list.append") [Value.ref _, _]) _ _ _)); (fail_if_success (with_reducible show wpAny _ _ (binaryOp Operator.Add (Value.str _ _) (Value.str _ _)) _ _ _)); walk1) | ((fail_if_success (with_reducible show wpAny _ _ (PySem.call (Value.builtin "list.append") [Value.ref _, _]) _ _ _)); (fail_if_success (with_reducible show wpAny _ _ (binaryOp Operator.Add (Value.str _ _) (Value.str _ _)) _ _ _)); leave1; walk_say "STEP leave1"; try dsimp only) | fail "no step")
    try dsimp only
    refine PyProof.Rows.add_str (fun t5 tk5 => ?_) (by rw [e3]; exact sp_len4 a1)
    repeat' (first | (k_unfold; (try dsimp only)) | (k_end; wrow_close) | ((fail_if_success (with_reducible show wpAny _ _ (PySem.call (Value.builtin "list.append") [Value.ref _, _]) _ _ _)); (fail_if_success (with_reducible show wpAny _ _ (binaryOp Operator.Add (Value.str _ _) (Value.str _ _)) _ _ _)); walk1; (try dsimp only)) | ((fail_if_success (with_reducible show wpAny _ _ (PySem.call (Value.builtin "list.append") [Value.ref _, _]) _ _ _)); (fail_if_success (with_reducible show wpAny _ _ (binaryOp Operator.Add (Value.str _ _) (Value.str _ _)) _ _ _)); dsimp only; (fail_if_success (with_reducible show wpAny _ _ (PySem.call (Value.builtin "list.append") [Value.ref _, _]) _ _ _)); (fail_if_success (with_reducible show wpAny _ _ (binaryOp Operator.Add (Value.str _ _) (Value.str _ _)) _ _ _)); walk1) | ((fail_if_success (with_reducible show wpAny _ _ (PySem.call (Value.builtin "list.append") [Value.ref _, _]) _ _ _)); (fail_if_success (with_reducible show wpAny _ _ (binaryOp Operator.Add (Value.str _ _) (Value.str _ _)) _ _ _)); leave1; walk_say "STEP leave1"; try dsimp only) | fail "no step")
    try dsimp only
    refine PyProof.Rows.add_str (fun t6 tk6 => ?_) (by rw [e4]; exact sp_len4 b1)
    repeat' (first | (k_unfold; (try dsimp only)) | (k_end; wrow_close) | ((fail_if_success (with_reducible show wpAny _ _ (PySem.call (Value.builtin "list.append") [Value.ref _, _]) _ _ _)); walk1; (try dsimp only)) | ((fail_if_success (with_reducible show wpAny _ _ (PySem.call (Value.builtin "list.append") [Value.ref _, _]) _ _ _)); dsimp only; (fail_if_success (with_reducible show wpAny _ _ (PySem.call (Value.builtin "list.append") [Value.ref _, _]) _ _ _)); walk1) | ((fail_if_success (with_reducible show wpAny _ _ (PySem.call (Value.builtin "list.append") [Value.ref _, _]) _ _ _)); leave1; walk_say "STEP leave1"; try dsimp only) | fail "no step")
    try dsimp only
    refine l_append (B := Fl) (by k_asm) (by k_asm) (by repeat (first | with_reducible exact Pick.here | apply Pick.there)) (by repeat' (first | exact oF2 | refine OffA.cons (by first | assumption | k_ne) ?_)) (by rw [List.length_append, List.length_singleton]; omega) fun h7 F7 N7 => ?_
    obtain ⟨tl3, N8, s3, hp2, oF3, oI3⟩ := phr_fold N7 oF2 oI2 ⟨by k_ne, by k_ne, by k_ne, by k_ne, by k_ne, by k_ne⟩ (KeysAre.cons e2 (Nat.le_of_ble_eq_true rfl) KeysAre.nil) rfl (sp2 e5 e6 nc nd ec ed)
    clear N7
    repeat' (first | (k_unfold; (try dsimp only)) | (k_end; wrow_close) | (walk1; (try dsimp only)) | (dsimp only; walk1) | (leave1; walk_say "STEP leave1"; try dsimp only) | fail "no step")
    exact phr_turn_end (by assumption) (by assumption) hK0 hX0 s2 s3 hln hit2 hp1 hp2 oF3 oI3 hIF
  case done =>
    clear kF1 N2
    rintro m₁ nx h tk3 ⟨u, items, n, extras, rfl, mF, mK, mX, hln, hall, oX⟩ F1 N1
    rw [hvl] at hln
    have N2 : News g' L' h ((Fl, listOf items.toArray n) :: extras) := fun q hq => N1 q (by
      rcases List.mem_cons.mp hq with rfl | hq
      · exact mF
      · exact mX q hq)
    change Fr g' L' h _ at F1
    clear N1 mF mK mX
    try dsimp only
    repeat' (first | (k_unfold; (try dsimp only)) | (k_end; wrow_close) | ((fail_if_success (with_reducible show wpAny _ _ (PySem.call (Value.builtin "list.append") [Value.ref _, _]) _ _ _)); walk1; (try dsimp only)) | ((fail_if_success (with_reducible show wpAny _ _ (PySem.call (Value.builtin "list.append") [Value.ref _, _]) _ _ _)); dsimp only; (fail_if_success (with_reducible show wpAny _ _ (PySem.call (Value.builtin "list.append") [Value.ref _, _]) _ _ _)); walk1) | ((fail_if_success (with_reducible show wpAny _ _ (PySem.call (Value.builtin "list.append") [Value.ref _, _]) _ _ _)); leave1; walk_say "STEP leave1"; try dsimp only) | fail "no step")
    try dsimp only
    refine l_append (B := Fl) (by k_asm) (by k_asm) (by repeat (first | with_reducible exact Pick.here | apply Pick.there)) (by repeat' (first | exact oX | refine OffA.cons (by first | assumption | k_ne) ?_)) (by first | omega | (simp only [List.length_append, List.length_singleton]; omega)) fun h5 F5 N5 => ?_
    obtain ⟨tl1, N6, s1, p1, o1⟩ := phr_fold0 N5 oX ⟨by k_ne, by k_ne, by k_ne⟩ (KeysAre.cons (k := .over) rfl (Nat.le_of_ble_eq_true rfl) (KeysAre.cons (k := .fault) rfl (Nat.le_of_ble_eq_true rfl) KeysAre.nil)) rfl (sp2 (a := .sov) (b := .sonov) rfl rfl nofun nofun rfl rfl)
    clear N5
    repeat' (first | (k_unfold; (try dsimp only)) | (k_end; wrow_close) | ((fail_if_success (with_reducible show wpAny _ _ (PySem.call (Value.builtin "list.append") [Value.ref _, _]) _ _ _)); walk1; (try dsimp only)) | ((fail_if_success (with_reducible show wpAny _ _ (PySem.call (Value.builtin "list.append") [Value.ref _, _]) _ _ _)); dsimp only; (fail_if_success (with_reducible show wpAny _ _ (PySem.call (Value.builtin "list.append") [Value.ref _, _]) _ _ _)); walk1) | ((fail_if_success (with_reducible show wpAny _ _ (PySem.call (Value.builtin "list.append") [Value.ref _, _]) _ _ _)); leave1; walk_say "STEP leave1"; try dsimp only) | fail "no step")
    try dsimp only
    refine l_append (B := Fl) (by k_asm) (by k_asm) (by repeat (first | with_reducible exact Pick.here | apply Pick.there)) (by repeat' (first | exact o1 | refine OffA.cons (by first | assumption | k_ne) ?_)) (by first | omega | (simp only [List.length_append, List.length_singleton]; omega)) fun h7 F7 N7 => ?_
    obtain ⟨tl2, N8, s2, p2, o2⟩ := phr_fold0 N7 o1 ⟨by k_ne, by k_ne, by k_ne⟩ (KeysAre.cons (k := .nover) rfl (Nat.le_of_ble_eq_true rfl) KeysAre.nil) rfl (sp2 (a := .snoov) (b := .snoonov) rfl rfl nofun nofun rfl rfl)
    clear N7
    repeat' (first | (k_unfold; (try dsimp only)) | (k_end; wrow_close) | ((fail_if_success (with_reducible show wpAny _ _ (PySem.call (Value.builtin "list.append") [Value.ref _, _]) _ _ _)); walk1; (try dsimp only)) | ((fail_if_success (with_reducible show wpAny _ _ (PySem.call (Value.builtin "list.append") [Value.ref _, _]) _ _ _)); dsimp only; (fail_if_success (with_reducible show wpAny _ _ (PySem.call (Value.builtin "list.append") [Value.ref _, _]) _ _ _)); walk1) | ((fail_if_success (with_reducible show wpAny _ _ (PySem.call (Value.builtin "list.append") [Value.ref _, _]) _ _ _)); leave1; walk_say "STEP leave1"; try dsimp only) | fail "no step")
    try dsimp only
    refine l_append (B := Fl) (by k_asm) (by k_asm) (by repeat (first | with_reducible exact Pick.here | apply Pick.there)) (by repeat' (first | exact o2 | refine OffA.cons (by first | assumption | k_ne) ?_)) (by first | omega | (simp only [List.length_append, List.length_singleton]; omega)) fun h9 F9 N9 => ?_
    obtain ⟨tl3, N10, s3, p3, o3⟩ := phr_fold0 N9 o2 ⟨by k_ne, by k_ne, by k_ne⟩ (KeysAre.cons (k := .fault) rfl (Nat.le_of_ble_eq_true rfl) KeysAre.nil) rfl (sp2 (a := .sex) (b := .sonex) rfl rfl nofun nofun rfl rfl)
    clear N9
    repeat' (first | (k_unfold; (try dsimp only)) | (k_end; wrow_close) | ((fail_if_success (with_reducible show wpAny _ _ (binaryOp Operator.Add (Value.ref _) (Value.ref _)) _ _ _)); walk1; (try dsimp only)) | ((fail_if_success (with_reducible show wpAny _ _ (binaryOp Operator.Add (Value.ref _) (Value.ref _)) _ _ _)); dsimp only; (fail_if_success (with_reducible show wpAny _ _ (binaryOp Operator.Add (Value.ref _) (Value.ref _)) _ _ _)); walk1) | ((fail_if_success (with_reducible show wpAny _ _ (binaryOp Operator.Add (Value.ref _) (Value.ref _)) _ _ _)); leave1; walk_say "STEP leave1"; try dsimp only) | fail "no step")
    try dsimp only
    refine l_add (by k_asm) (by k_asm) (.tail _ (.tail _ (.tail _ (.tail _ (.head _))))) (.head _) (by simp only [List.length_append, List.length_singleton]; omega) fun D1 h11 F11 N11 l11 => ?_
    clear l11
    repeat' (first | (k_unfold; (try dsimp only)) | (k_end; wrow_close) | (walk1; (try dsimp only)) | (dsimp only; walk1) | (leave1; walk_say "STEP leave1"; try dsimp only) | fail "no step")
    refine phr_end (by assumption) (by assumption) (by simp only [List.length_append, List.length_singleton]; omega) (fun v hv => ?_) (KeysAre.cons (k := .nfault) rfl (Nat.le_of_ble_eq_true rfl) KeysAre.nil) rfl (sp2 (a := .snoex) (b := .snoonex) rfl rfl nofun nofun rfl rfl)
    simp only [List.mem_append, List.mem_singleton] at hv
    rcases hv with ((hv | rfl) | rfl) | rfl
    · exact (hall v hv).mono fun q hq => s3 _ (s2 _ (s1 _ hq))
    · exact p1.mono fun q hq => s3 _ (s2 _ hq)
    · exact p2.mono s3
    · exact p3
end
end
section
theorem cold_is {h₀ h : Heap} {L l : Addr} {m : PySem.Str → Option Value} {a : Array Value} (F : Fr h₀ L h m) (hl : h₀.IsList l a) : h.IsList l a := by
  obtain ⟨o, e, r⟩ := hl
  exact ⟨o, F.keep _ _ e, r⟩
theorem l_slice {prog : Program} {w : World} {A : Around} {E : Value → Shared → Prop} {s : Shared} {h₀ h1 : Heap} {L : Addr} {m : PySem.Str → Option Value} {news : Led} {value slice : PySem.Expr} {l : Addr} {items : Array Value} {vs : List Value} {vl vu : Value} {lo hi : Option Int} {tk : Nat} {Q : Value → Shared → Prop}
    (F : Fr h₀ L h1 m) (N : News h₀ L h1 news) (hl : h1.IsList l items) (pl : IsPart vl lo) (pu : IsPart vu hi) (hv : slicePick items lo hi none = vs.toArray) (hsz : items.size ≤ 16384)
    (h : ∀ D h', Fr h₀ L h' m → News h₀ L h' ((D, listOf vs.toArray 0) :: news) → (∀ p ∈ news, p.1 < D) → Q (.ref D) { s with heap := h', toks := tk })
    (hs : subscripted slice false (.ref l) (.ref h1.objs.size) = operate [.ref h1.objs.size, .ref l] (getItem (.ref l) (.ref h1.objs.size)) := by with_unfolding_all rfl)
    (ht : ∀ r, letTemporaryGo value (.ref l) r = pure () := by intro _; with_unfolding_all rfl) :
    wpAny (model prog w) A (subscriptTail value slice (.ref l) (.ref h1.objs.size)) Q E { s with heap := h1.push { cls := .type "slice", data := .fields #[vl, vu, .none] }, toks := tk } :=
  slice_list (s := { s with heap := h1, toks := tk }) F N hl pl pu (fun h' F' N' => h _ h' F' (hv ▸ N') fun p hp => Nat.lt_succ_of_lt (Heap.lt_size (N p hp).1)) hs ht (by rw [sizeLine_eq]; omega)
noncomputable def PenJ (i : Nat) (ys : List Value) (_ : Led) : Prop := ys.length = i ∧ ∃ xs : List Int, IntsAre ys xs ∧ ∀ x ∈ xs, 0 ≤ x ∧ x < 2 * 10 ^ 40
theorem ints_snoc {vs : List Value} {ns : List Int} (h : IntsAre vs ns) (n : Int) (t : Tok) : IntsAre (vs ++ [.int n t]) (ns ++ [n]) := by
  induction h with
  | nil => exact .cons n t .nil
  | cons a b _ ih => exact .cons a b ih
theorem pen_num (x : Int) : 0 ≤ (if x < 0 then -x else x).fmod 10000000000000000000000000000000000000000 + 10000000000000000000000000000000000000000 * (if decide (x < 0) = true then 1 else 0) ∧
    (if x < 0 then -x else x).fmod 10000000000000000000000000000000000000000 + 10000000000000000000000000000000000000000 * (if decide (x < 0) = true then 1 else 0) < 2 * 10 ^ 40 := by
  have h := fmod_lt (c := if x < 0 then -x else x) (m := 10000000000000000000000000000000000000000) (by decide)
  have e : (2 * 10 ^ 40 : Int) = 20000000000000000000000000000000000000000 := by decide +kernel
  rw [e]
  have h2 : (if decide (x < 0) = true then (1 : Int) else 0) = 0 ∨ (if decide (x < 0) = true then (1 : Int) else 0) = 1 := by split <;> simp
  rcases h2 with h2 | h2 <;> rw [h2] <;> omega
theorem pen_cells {vs ys : List Value} {nx : Led} (h : PenJ (vs.take 30).length ys nx) : ys.length ≤ 30 ∧ CellsOk ys := by
  obtain ⟨hl, xs, h1, h2⟩ := h
  have hl : ys.length ≤ 30 := by rw [hl, List.length_take]; omega
  exact ⟨hl, ⟨xs, h1, h2⟩, hl⟩
open PyProof.Rows.LCg in
theorem pen_turn {h₀ : Heap} {L : Addr} {m : PySem.Str → Option Value} {s₁ : Shared} {own news₁ : Led} {C D b1 : Addr} {fp : List Addr} {ys : List Value} {h' : Heap} {tk i : Nat} {oC : Obj} {m₂ : PySem.Str → Option Value} {z : Int} {t : Tok} (F : Fr h₀ L h' m)
    (N : News h₀ L h' ((C, oC) :: (D, lst ys) :: (own ++ news₁))) (hC : NsObj oC m₂) (hfp : ∀ b ∈ b1 :: fp, b < D) (off : ∀ p ∈ news₁, p.1 ∉ [b1] ∧ p.1 ≠ C ∧ p.1 ≠ D) (hJ : PenJ i ys news₁) (hz : 0 ≤ z ∧ z < 2 * 10 ^ 40) :
    TurnEnd h₀ L m s₁ own C D [b1] ys (PenJ (i + 1)) (.int z t) { s₁ with heap := h', toks := tk } := by
  obtain ⟨hl, xs, h1, h2⟩ := hJ
  refine TurnEnd.walk [] F N hC hfp (fun b hb => by rw [List.mem_singleton.mp hb]; exact .head _) off (fun p hp => hp) (fun p hp => nomatch hp) ⟨by rw [List.length_append, hl]; rfl, xs ++ [z], ints_snoc h1 z t, fun x hx => ?_⟩
  rcases List.mem_append.mp hx with hx | hx
  · exact h2 x hx
  · rw [List.mem_singleton.mp hx]; exact hz
theorem pen_end {g h : Heap} {L Pn Cl : Addr} {m' : PySem.Str → Option Value} {s : Shared} {cvs : List Value} {n n2 tk : Nat} {t1 t2 : Tok} (F : Fr g L h m') (N : News g L h [(Pn, listOf [Value.ref Cl, .int 0 t1, .int 0 t2].toArray n), (Cl, listOf cvs.toArray n2)]) (hc : CellsOk cvs) (hne : Cl < Pn) :
    EndR g s (fun tl r => ∃ Pn Cl o cvs nc, r = .ref Pn ∧ tl = [(Pn, o), (Cl, listOf cvs.toArray nc)] ∧ PenIs Cl 0 o ∧ CellsOk cvs ∧ Pn ≠ Cl) (.ok (.ret (.ref Pn))) { s with heap := h, toks := tk } :=
  EndR.sub _ F N (fun q hq => hq) ⟨Pn, Cl, _, cvs, n2, rfl, rfl, ⟨0, 0, t1, t2, n, rfl, by decide, by decide, by decide, by unfold CB; decide +kernel⟩, hc, Nat.ne_of_gt hne⟩
section
variable {w : World} {A₀ : Around} {Q E : Value → Shared → Prop} {s : Shared} {h₀ base : Heap} {L : Addr} {m mg mb : PySem.Str → Option Value} {hot news cold cold' all rest : Led} {p : Program} {loose : List PySem.Str} {mean : ExcName → Option Value}
  {dp un : Nat} {gd : Option (List Code)} {cn : PySem.Str} {cs : Scope} {a : Addr} {ccd : Value} {cl : List (PySem.Str × Addr)} {outer : List Env}
  {Sl : Addr} {svs : List Value} {ns : List Int}
theorem pen_ct (B : Below A₀ base outer h₀) (F : Fr h₀ L s.heap m) (X : (Mine.heap w.params).In h₀) (N : News h₀ L s.heap news) (T : Top p loose mean mg mb h₀) (hk : cs.kind = .function) (hS : h₀.IsList Sl svs.toArray) (hns : IntsAre svs ns) (hlen : ns.length ≤ 63) (hd : dp + 20 < recursionLimit) (hu : un + 160 < cLine)
    (ret : ∀ Pn Cl o cvs nc extras h' tk', Fr h₀ L h' m → News h₀ L h' ((Pn, o) :: (Cl, listOf cvs.toArray nc) :: (extras ++ news)) → PenIs Cl 0 o → CellsOk cvs → Off news [(Pn, o), (Cl, listOf cvs.toArray nc)] → Pn ≠ Cl → Q (.ref Pn) { s with heap := h', toks := tk' }) :
    wpAny (model PySem.Challenge.rw_pb0257_01.row.prog w) (ktrTop dp un gd cn cs L a ccd cl outer) (call (.ref 305) [.ref Sl]) Q E s := by
  revert X
  k_fill
  w_on
  intro X
  refine' ct_enter (hot := []) (news := news) (cold := [])
    (Post := fun tl r => ∃ Pn Cl o cvs nc, r = .ref Pn ∧ tl = [(Pn, o), (Cl, listOf cvs.toArray nc)] ∧ PenIs Cl 0 o ∧ CellsOk cvs ∧ Pn ≠ Cl)
    [(S "script", .ref Sl)] B F X N (fun _ _ _ hp => nomatch hp) (fun _ hq => nomatch hq) (fun _ _ _ hp => nomatch hp) T hk ?ret ?ho ?hcd ?hroom ?hbind ?hloc ?c1 ?c2 ?c3 ?c4 ?_
  case ret =>
    rintro r tl h' tk' F' N' O' ⟨Pn, Cl, o, cvs, nc, rfl, rfl, e1, e2, e3⟩
    exact ret Pn Cl o cvs nc [] h' tk' F' N' e1 e2 (fun q hq => O' q (List.mem_append_left _ hq)) e3
  case ho => k_is
  case hcd => k_is
  case hroom => k_room
  case hbind => exact BindsTo.of_eq rfl
  case hloc => exact locs rfl
  case c1 => exact rfl
  case c2 => exact rfl
  case c3 => exact rfl
  case c4 => decide
  clear ret N
  intro g' L' h' FG' F' N' hC' B' X' T'
  try dsimp only
  k_fold
  have hSg : g'.IsList Sl svs.toArray := by obtain ⟨o, ho, r⟩ := hS; exact ⟨o, FG'.keep _ _ ho, r⟩
  repeat' (first | (k_unfold; (try dsimp only)) | (k_end; wrow_close) | ((fail_if_success (with_reducible show wpAny _ _ (exec (Stmt.Assign _ (PySem.Expr.ListComp _ _ _ _) _) _) _ _ _)); walk1; (try dsimp only)) | ((fail_if_success (with_reducible show wpAny _ _ (exec (Stmt.Assign _ (PySem.Expr.ListComp _ _ _ _) _) _) _ _ _)); dsimp only; (fail_if_success (with_reducible show wpAny _ _ (exec (Stmt.Assign _ (PySem.Expr.ListComp _ _ _ _) _) _) _ _ _)); walk1) | ((fail_if_success (with_reducible show wpAny _ _ (exec (Stmt.Assign _ (PySem.Expr.ListComp _ _ _ _) _) _) _ _ _)); leave1; walk_say "STEP leave1"; try dsimp only) | fail "no step")
  refine' assign_compF (h₀ := g') (m := fun y => List.lookup y [(S "script", Value.ref Sl)].reverse) (by exact rfl) ?lca ?lcb ?lcc ?lcd (by exact rfl) (by exact rfl) ?lce ?lcf
  case lca => with_unfolding_all rfl
  case lcb => decide
  case lcc => rfl
  case lcd => decide
  case lcf => intro _; rfl
  repeat' (first | (k_unfold; (try dsimp only)) | (k_end; wrow_close) | ((fail_if_success (with_reducible show wpAny _ _ (pyIter (Value.ref _)) _ _ _)); (fail_if_success (with_reducible show wpAny _ _ (subscriptTail _ _ (Value.ref Sl) _) _ _ _)); walk1; (try dsimp only)) | ((fail_if_success (with_reducible show wpAny _ _ (pyIter (Value.ref _)) _ _ _)); (fail_if_success (with_reducible show wpAny _ _ (subscriptTail _ _ (Value.ref Sl) _) _ _ _)); dsimp only; (fail_if_success (with_reducible show wpAny _ _ (pyIter (Value.ref _)) _ _ _)); (fail_if_success (with_reducible show wpAny _ _ (subscriptTail _ _ (Value.ref Sl) _) _ _ _)); walk1) | ((fail_if_success (with_reducible show wpAny _ _ (pyIter (Value.ref _)) _ _ _)); (fail_if_success (with_reducible show wpAny _ _ (subscriptTail _ _ (Value.ref Sl) _) _ _ _)); leave1; walk_say "STEP leave1"; try dsimp only) | fail "no step")
  try dsimp only
  refine l_slice (by k_asm) (by k_asm) (cold_is (by k_asm) hSg) .none (.int _ _) (slicePick_upto' svs.toArray 30) (by rw [List.size_toArray, hns.length]; omega) fun D2 h2 F2 N2 _ => ?_
  repeat' (first | (k_unfold; (try dsimp only)) | (k_end; wrow_close) | ((fail_if_success (with_reducible show wpAny _ _ (pyIter (Value.ref _)) _ _ _)); walk1; (try dsimp only)) | ((fail_if_success (with_reducible show wpAny _ _ (pyIter (Value.ref _)) _ _ _)); dsimp only; (fail_if_success (with_reducible show wpAny _ _ (pyIter (Value.ref _)) _ _ _)); walk1) | ((fail_if_success (with_reducible show wpAny _ _ (pyIter (Value.ref _)) _ _ _)); leave1; walk_say "STEP leave1"; try dsimp only) | fail "no step")
  refine compF_list (vs := svs.take 30) (nl := 0) (PenJ) (by exact rfl) ⟨_, (N2 _ (.head _)).1, rfl, _, rfl⟩ (N2 _ (.head _)).2.1 (by rw [sizeLine_eq, List.length_take]; omega) F2 N2 ⟨rfl, [], .nil, fun x h => nomatch h⟩ ?turn ?done
  case turn =>
    intro i v ys news₁ h₁ tk₁ own C oC D m₁ E' hv hJ offN offO hCD hCL hfp hC₀ hoC F₁ N₁
    obtain ⟨x, t, rfl, _⟩ := ints_at (hns.take 30) i v hv
    refine asg1 (by exact rfl) rfl (hoC.ns (N₁ _ (List.mem_append_right _ List.mem_cons_self)).1) fun h3 tk3 hn3 hk3 => ?_
    refine wpAny_tests_nil ?_
    rw [if_pos rfl]
    obtain ⟨m₂, e1, hn4⟩ : ∃ m₂, m₂ (S "cell") = some (.int x t) ∧ h3.Ns C m₂ := ⟨_, rfl, hn3⟩
    obtain ⟨F3, oC2, hoC2, N3⟩ := turn_after F₁ N₁ hCD hCL hC₀ (fun p hp => (offO p hp).2.1) (fun p hp => (offN p hp).2.1) hk3 hn4
    clear hn3 hn4 hoC F₁ N₁ hk3 N2 F2
    try dsimp only
    repeat' (first | (k_unfold; (try dsimp only)) | (k_end; wrow_close) | ((fail_if_success (with_reducible show wpAny _ _ (binaryOp Operator.Pow _ _) _ _ _)); walk1; (try dsimp only)) | ((fail_if_success (with_reducible show wpAny _ _ (binaryOp Operator.Pow _ _) _ _ _)); dsimp only; (fail_if_success (with_reducible show wpAny _ _ (binaryOp Operator.Pow _ _) _ _ _)); walk1) | ((fail_if_success (with_reducible show wpAny _ _ (binaryOp Operator.Pow _ _) _ _ _)); leave1; walk_say "STEP leave1"; try dsimp only) | fail "no step")
    refine pow_int (by decide) (by decide +kernel) ?_
    rw [show ((10 : Int) ^ (40 : Int).toNat) = 10000000000000000000000000000000000000000 by decide +kernel]
    repeat' (first | (k_unfold; (try dsimp only)) | (k_end; wrow_close) | ((fail_if_success (with_reducible show wpAny _ _ (binaryOp Operator.Pow _ _) _ _ _)); walk1; (try dsimp only)) | ((fail_if_success (with_reducible show wpAny _ _ (binaryOp Operator.Pow _ _) _ _ _)); dsimp only; (fail_if_success (with_reducible show wpAny _ _ (binaryOp Operator.Pow _ _) _ _ _)); walk1) | ((fail_if_success (with_reducible show wpAny _ _ (binaryOp Operator.Pow _ _) _ _ _)); leave1; walk_say "STEP leave1"; try dsimp only) | fail "no step")
    refine pow_int (by decide) (by decide +kernel) ?_
    rw [show ((10 : Int) ^ (40 : Int).toNat) = 10000000000000000000000000000000000000000 by decide +kernel]
    repeat' (first | (k_unfold; (try dsimp only)) | (k_end; wrow_close) | (walk1; (try dsimp only)) | (dsimp only; walk1) | (leave1; walk_say "STEP leave1"; try dsimp only) | fail "no step")
    exact pen_turn (by assumption) (by assumption) hoC2 hfp offN hJ (pen_num x)
  case done =>
    intro D5 h5 tk5 ys news' F5 N5 off5 hJ
    obtain ⟨hl, hc⟩ := pen_cells hJ
    replace N5 : News g' L' h5 [(D5, listOf ys.toArray ys.length)] := fun q hq => N5 q (by rw [List.mem_singleton.mp hq]; exact .head _)
    clear hJ F2 N2 off5
    try dsimp only
    repeat' (first | (k_unfold; (try dsimp only)) | (k_end; wrow_close) | (walk1; (try dsimp only)) | (dsimp only; walk1) | (leave1; walk_say "STEP leave1"; try dsimp only) | fail "no step")
    exact pen_end (by assumption) (by assumption) hc (by assumption)
end
end
section
section
variable {prog : Program} {w : World} {A : Around} {E : Value → Shared → Prop} {s : Shared} {env : Env} {h₀ : Heap} {x : PySem.Str} {body : List Stmt} {Q : Flow → Shared → Prop}
/-- a loop over a short range -/
theorem loop_range {r : Addr} {n : Nat} {d : Int} {t u v : Tok} {m₀ : PySem.Str → Option Value} {news : Led} (J : Nat → (PySem.Str → Option Value) → Led → Prop)
    (hh : A.handled = none) (hr : IsRange s.heap r 0 d 1 t u v) (hd : d = (n : Int)) (hn : n ≤ 100) (F : Fr h₀ env.locals s.heap m₀) (N : News h₀ env.locals s.heap news) (hj : J 0 m₀ news)
    (turn : ∀ i v m₁ nx I it h tk, i < n → it.cls = .type "range_iterator" → J i m₁ nx → (∀ p ∈ nx, p.1 ≠ I) → Fr h₀ env.locals h (fun y => if y = x then some v else m₁ y) → News h₀ env.locals h ((I, it) :: nx) →
      wpAny (model prog w) A (execs body env) (UnrPost h₀ env.locals { s with heap := h, toks := tk } I it (J (i + 1)) Q) E { s with heap := h, toks := tk })
    (done : ∀ m₁ nx h tk, J n m₁ nx → Fr h₀ env.locals h m₁ → News h₀ env.locals h nx → Q .next { s with heap := h, toks := tk }) :
    wpAny (model prog w) A (pyIter (.ref r)) (fun it s₂ => LoopAtV prog w A h₀ env x body Q E it s₂) E s := by
  subst hd
  have hsz : Builtin.Range.rangeSize 0 (n : Int) 1 = (n : Int) := by rw [rangeSize_nat]; omega
  have hsm : Builtin.Range.small 0 (n : Int) 1 = true := by
    unfold Builtin.Range.small
    rw [hsz]
    have h0 : ∀ k : Nat, k ≤ 200 → Builtin.Range.rangeFitsLong (k : Int) = true := by decide +kernel
    have e0 : Builtin.Range.rangeFitsLong 0 = true := h0 0 (by omega)
    have e1 : Builtin.Range.rangeFitsLong 1 = true := h0 1 (by omega)
    have en : Builtin.Range.rangeFitsLong (n : Int) = true := h0 n (by omega)
    simp [e0, e1, en]
  refine wpAny_pyIter_range hr hsm ?_
  rw [hsz]
  have W := Walks.range (prog := prog) (w := w) hh s.heap.objs.size 0 1 n
  refine ⟨_, _, _, n, _, _, m₀, news, J, rfl, W, ?_, ?_, ?_, ?_, F.push _, (fun p hp => ⟨Heap.get?_push_of_some _ (N p hp).1, (N p hp).2⟩), hj, ?_, ?_⟩
  · intro hm
    exact absurd F.ns.lt ((List.mem_singleton.mp hm) ▸ Nat.lt_irrefl _)
  · intro b hb
    rw [List.mem_singleton.mp hb]
    exact next_is_new F
  · intro p hp hI
    exact absurd (Heap.lt_size (N p hp).1) ((List.mem_singleton.mp hI) ▸ Nat.lt_irrefl _)
  · show IsRangeIter _ _ _ _ _
    simpa using Heap.get?_push_size _ rfl
  · rintro i v m₁ news₁ s₁ own ⟨hh', tk', rfl⟩ hin hP hJ hoff hown hat hmem hst F₁ N₁
    obtain ⟨oi, hoi, hoe⟩ : ∃ oi, hh'.get? s.heap.objs.size = some oi ∧ oi.cls = .type "range_iterator" := ⟨_, hst, rfl⟩
    have hI := hmem _ (.head _) (next_is_new F) _ hoi
    have N₂ : News h₀ env.locals hh' ((s.heap.objs.size, oi) :: news₁) := fun p hp => by
      rcases List.mem_cons.mp hp with rfl | hp
      · exact N₁ _ (List.mem_append_left _ hI)
      · exact N₁ _ (List.mem_append_right _ hp)
    refine wpAny_mono (turn i v m₁ news₁ s.heap.objs.size oi hh' tk' hin hoe hJ (fun p hp e => hoff p hp (List.mem_singleton.mpr e)) F₁ N₂) (fun f s₂ p => ?_) fun _ _ e => e
    have fin : UnrEnd h₀ env.locals { s with heap := hh', toks := tk' } s.heap.objs.size oi (J (i + 1)) s₂ → LoopStepU h₀ env.locals [s.heap.objs.size] own (J (i + 1)) { s with heap := hh', toks := tk' } .next s₂ := by
      rintro ⟨h', tk, m', news', e, F', N', ho, r⟩
      refine ⟨rfl, h', tk, m', news', e, F', fun p hp => ?_, fun p hp hI => ho p hp (List.mem_singleton.mp hI), r⟩
      rcases List.mem_append.mp hp with hp | hp
      · have h1 := List.mem_singleton.mp (hown p hp)
        have h2 : hh'.get? p.1 = some p.2 := hat p hp
        have h3 : p = (s.heap.objs.size, oi) := by
          rw [h1, hoi] at h2
          exact Prod.ext h1 (Option.some.inj h2).symm
        rw [h3]; exact N' _ (List.mem_cons_self ..)
      · exact N' _ (List.mem_cons_of_mem _ hp)
    cases f with
    | ret v => exact .ret p
    | brk => exact .brk p
    | next => exact .next (fin p)
    | cont => exact .cont (fin p)
  · rintro h' tk m' news' F' N' _ hJ
    exact done m' news' h' tk hJ F' N'
end
end
section
theorem l_rev {prog : Program} {w : World} {A : Around} {E : Value → Shared → Prop} {s : Shared} {h₀ h1 : Heap} {L : Addr} {m : PySem.Str → Option Value} {news : Led} {value slice : PySem.Expr} {l : Addr} {xs : List Value} {t : Tok} {n tk : Nat} {ops : List Value} {Q : Value → Shared → Prop}
    (F : Fr h₀ L h1 m) (N : News h₀ L h1 news) (hl : (l, listOf xs.toArray n) ∈ news) (hsz : xs.length ≤ 16384)
    (h : ∀ D h', Fr h₀ L h' m → News h₀ L h' ((D, listOf xs.reverse.toArray 0) :: news) → (∀ p ∈ news, p.1 < D) → Q (.ref D) { s with heap := h', toks := tk })
    (hs : subscripted slice false (.ref l) (.ref h1.objs.size) = operate ops (getItem (.ref l) (.ref h1.objs.size)) := by with_unfolding_all rfl)
    (ht : ∀ r, letTemporaryGo value (.ref l) r = pure () := by intro _; with_unfolding_all rfl) :
    wpAny (model prog w) A (subscriptTail value slice (.ref l) (.ref h1.objs.size)) Q E { s with heap := h1.push { cls := .type "slice", data := .fields #[.none, .none, .int (-1) t] }, toks := tk } :=
  krv_lit (s := { s with heap := h1, toks := tk }) F N (its := xs.toArray) (zs := xs.reverse) ⟨_, (N _ hl).1, rfl, _, rfl⟩ (.int _ _) rfl h hs ht (by rw [sizeLine_eq, List.size_toArray]; omega)
theorem RowsAre.nil {cold : Led} : RowsAre cold [] [] := ⟨rfl, Nat.zero_le _, fun i v h => by cases h⟩
theorem RowsAre.cons {cold : Led} {vs avs : List Value} {rows : List (Sp × Nat)} {T A : Addr} {n1 n2 c : Nat} {t u : Tok} {sp : Sp} {x : PySem.Str} (hT : (T, tupObj [.ref A, .str x t, .int (c : Int) u] n1) ∈ cold) (hA : (A, listOf avs.toArray n2) ∈ cold) (hk : KeysAre avs sp.able) (hx : x = sp.text) (hc : c ≤ 3) (hsp : sp ≠ .sco) (hz : vs.length < 100) (r : RowsAre cold vs rows) :
    RowsAre cold (.ref T :: vs) ((sp, c) :: rows) := by
  subst hx
  refine ⟨congrArg (· + 1) r.len, hz, fun i v e => ?_⟩
  cases i with
  | zero => cases e; exact ⟨T, A, avs, n1, n2, t, u, sp, c, rfl, rfl, hT, hA, hk, hc, hsp⟩
  | succ i => exact r.get i v e
theorem News.at_led {h₀ h : Heap} {L : Addr} {news : Led} (N : News h₀ L h news) {q : Addr × Obj} (hq : q ∈ news) : h.get? q.1 = some q.2 := (N q hq).1
end
section
theorem led_front {h₀ h : Heap} {L : Addr} {a q : Addr × Obj} {ex rest : Led} (N : News h₀ L h (q :: (ex ++ a :: rest))) : News h₀ L h (a :: q :: (ex ++ rest)) := fun p hp => N p (by
  simp only [List.mem_cons, List.mem_append] at hp ⊢
  rcases hp with hp | hp | hp | hp
  · exact .inr (.inr (.inl hp))
  · exact .inl hp
  · exact .inr (.inl hp)
  · exact .inr (.inr (.inr hp)))
theorem led_swap {h₀ h : Heap} {L : Addr} {a b : Addr × Obj} {rest : Led} (N : News h₀ L h (a :: b :: rest)) : News h₀ L h (b :: a :: rest) := fun p hp => N p (by
  simp only [List.mem_cons] at hp ⊢
  rcases hp with hp | hp | hp
  · exact .inr (.inl hp)
  · exact .inl hp
  · exact .inr (.inr hp))
theorem off_new {T P : Addr} {R : Prop} {l : Led} (h : (P < T) ∧ R) (o : OffA l P) (oT : Obj) : OffA ((T, oT) :: l) P := OffA.cons (Ne.symm (Nat.ne_of_lt h.1)) o
theorem cold_tail {h₀ h : Heap} {L : Addr} {a : Addr × Obj} {rest : Led} (N : News h₀ L h (a :: rest)) : ColdAt h rest := fun q hq => (N q (.tail _ hq)).1
theorem six_pick {t1 t2 t3 t4 t5 t6 : Tok} {i : Nat} {v : Value} (h : [Value.int 1 t1, .int 2 t2, .int 1 t3, .int 3 t4, .int 1 t5, .int 0 t6][i]? = some v) : ∃ (c : Nat) (t : Tok), v = .int (c : Int) t ∧ c ≤ 3 := by
  match i, h with
  | 0, h => cases h; exact ⟨1, t1, rfl, by decide⟩
  | 1, h => cases h; exact ⟨2, t2, rfl, by decide⟩
  | 2, h => cases h; exact ⟨1, t3, rfl, by decide⟩
  | 3, h => cases h; exact ⟨3, t4, rfl, by decide⟩
  | 4, h => cases h; exact ⟨1, t5, rfl, by decide⟩
  | 5, h => cases h; exact ⟨0, t6, rfl, by decide⟩
theorem law_pickled {h₀ h : Heap} {L : Addr} {t p wl d i c r x : Addr × Obj} {ex2 extras : Led} (N : News h₀ L h (t :: p :: wl :: d :: (ex2 ++ (i :: c :: r :: x :: extras)))) : News h₀ L h (r :: p :: i :: c :: x :: t :: (ex2 ++ extras)) := fun q hq => N q (by
  simp only [List.mem_cons, List.mem_append] at hq ⊢
  rcases hq with hq | hq | hq | hq | hq | hq | hq | hq <;> simp [hq])
theorem RowsAre.mono {cold cold' : Led} {vs : List Value} {rows : List (Sp × Nat)} (h : RowsAre cold vs rows) (hs : ∀ q ∈ cold, q ∈ cold') : RowsAre cold' vs rows := ⟨h.len, h.small, fun i v e => by
  obtain ⟨T, A, avs, n1, n2, t, u, sp, c, a1, a2, a3, a4, a5, a6, a7⟩ := h.get i v e
  exact ⟨T, A, avs, n1, n2, t, u, sp, c, a1, a2, hs _ a3, hs _ a4, a5, a6, a7⟩⟩
theorem RowsAre.snoc {cold : Led} {vs avs : List Value} {rows : List (Sp × Nat)} {T A : Addr} {n1 n2 c : Nat} {t u : Tok} {sp : Sp} (r : RowsAre cold vs rows) (hT : (T, tupObj [.ref A, .str sp.text t, .int (c : Int) u] n1) ∈ cold) (hA : (A, listOf avs.toArray n2) ∈ cold) (hk : KeysAre avs sp.able) (hc : c ≤ 3) (hsp : sp ≠ .sco) (hz : vs.length < 100) :
    RowsAre cold (vs ++ [.ref T]) (rows ++ [(sp, c)]) := by
  refine ⟨by rw [List.length_append, List.length_append, r.len]; rfl, by rw [List.length_append]; exact hz, fun i v e => ?_⟩
  rw [List.getElem?_append] at e ⊢
  rw [← r.len]
  split at e
  · rename_i hi
    rw [if_pos hi]
    exact r.get i v e
  · rename_i hi
    rw [if_neg hi]
    have hj : i - vs.length = 0 := by
      have := (List.getElem?_eq_some_iff.mp e).1
      simp only [List.length_singleton] at this
      omega
    rw [hj] at e ⊢
    cases e
    exact ⟨T, A, avs, n1, n2, t, u, sp, c, rfl, rfl, hT, hA, hk, hc, hsp⟩
theorem off_front {a : Addr} {oa : Obj} {q : Addr × Obj} {ex rest : Led} (O : Off ((a, oa) :: rest) (q :: ex)) (h : OffA rest a) : OffA (q :: (ex ++ rest)) a := fun p hp e => by
  simp only [List.mem_cons, List.mem_append] at hp
  rcases hp with hp | hp | hp
  · exact O (a, oa) (.head _) p (hp ▸ .head _) e.symm
  · exact O (a, oa) (.head _) p (.tail _ hp) e.symm
  · exact h p hp e
noncomputable def lawmap (u : PySem.Str → Option Value) (Rw : Addr) : PySem.Str → Option Value := fun z => if z = S "rows" then some (Value.ref Rw) else u z
noncomputable def LawJ (Pn Cl Rw Cc : Addr) (oD : Obj) (cvs : List Value) (nc : Nat) (i : Nat) (m : PySem.Str → Option Value) (nx : Led) : Prop := ∃ (u : PySem.Str → Option Value) (oP : Obj) (rvs : List Value) (rows : List (Sp × Nat)) (nr : Nat) (extras : Led),
  m = lawmap u Rw ∧ (Pn, oP) ∈ nx ∧ (Rw, listOf rvs.toArray nr) ∈ nx ∧ (Cl, listOf cvs.toArray nc) ∈ nx ∧ (Cc, oD) ∈ nx ∧ (∀ q ∈ extras, q ∈ nx) ∧ RowsAre extras rvs rows ∧ rvs.length = i ∧ PenIs Cl (1 + 3 * i) oP ∧ OffA extras Pn ∧ OffA extras Rw
theorem lawmap_turn {u : PySem.Str → Option Value} {Rw : Addr} {x1 x2 x3 : Option Value} : (fun z => if z = S "spellings" then x1 else if z = S "able" then x2 else if z = S "turn" then x3 else lawmap u Rw z) = lawmap (fun z => if z = S "spellings" then x1 else if z = S "able" then x2 else if z = S "turn" then x3 else u z) Rw := by
  funext z
  unfold lawmap
  by_cases h : z = S "rows"
  · subst h
    rw [if_pos rfl, if_neg (by decide), if_neg (by decide), if_neg (by decide)]
    exact (if_pos rfl).symm
  · rw [if_neg h, if_neg h]
theorem law_turn_end {g h : Heap} {L I Pn Cl Rw Cc T2 A1 D : Addr} {it oP oD oDD : Obj} {s : Shared} {u : PySem.Str → Option Value} {x1 x2 x3 : Option Value} {cvs rvs avs : List Value} {rows : List (Sp × Nat)} {nc nr' i c k2 tk n1 : Nat} {t6 t8 : Tok} {sp : Sp} {ex2 extras nx rest0 : Led}
    (F : Fr g L h fun z => if z = S "spellings" then x1 else if z = S "able" then x2 else if z = S "turn" then x3 else lawmap u Rw z) (N : News g L h ((Rw, listOf (rvs ++ [Value.ref T2]).toArray nr') :: (Pn, oP) :: (I, it) :: (Cl, listOf cvs.toArray nc) :: (Cc, oD) :: (T2, tupObj [.ref A1, .str sp.text t6, .int (c : Int) t8] n1) :: (ex2 ++ extras)))
    (hoff : ∀ p ∈ nx, p.1 ≠ I) (hRs : RowsAre extras rvs rows) (hln : rvs.length = i) (hi : i < 100) (mA : (A1, listOf avs.toArray k2) ∈ ex2) (hK : KeysAre avs sp.able) (hc : c ≤ 3) (hsp : sp ≠ .sco) (hP : PenIs Cl (1 + 3 * i + 1 + 1 + 1) oP) (hIP : I ≠ Pn) (hIR : I ≠ Rw) (hTI : T2 ≠ I) (hTP : T2 ≠ Pn) (hTR : T2 ≠ Rw)
    (oI : OffA ((D, oDD) :: ex2) I) (oP4 : OffA ((D, oDD) :: (ex2 ++ rest0)) Pn) (oR : OffA ((D, oDD) :: ex2) Rw) (xI : OffA extras I) (xP : OffA extras Pn) (xR : OffA extras Rw) (mC : (Cl, listOf cvs.toArray nc) ∈ nx) (mD : (Cc, oD) ∈ nx) :
    UnrEnd g L s I it (LawJ Pn Cl Rw Cc oD cvs nc (i + 1)) { s with heap := h, toks := tk } := by
  rw [lawmap_turn] at F
  have o2 : OffA ex2 Pn := fun q hq => oP4 q (.tail _ (List.mem_append_left _ hq))
  refine UnrEnd.intro F N ((Rw, listOf (rvs ++ [Value.ref T2]).toArray nr') :: (Pn, oP) :: (Cl, listOf cvs.toArray nc) :: (Cc, oD) :: (T2, tupObj [.ref A1, .str sp.text t6, .int (c : Int) t8] n1) :: (ex2 ++ extras)) (fun q hq => ?_) (fun q hq => ?_)
    ⟨_, oP, rvs ++ [.ref T2], rows ++ [(sp, c)], nr', (T2, tupObj [.ref A1, .str sp.text t6, .int (c : Int) t8] n1) :: (ex2 ++ extras), rfl, .tail _ (.head _), .head _, .tail _ (.tail _ (.head _)), .tail _ (.tail _ (.tail _ (.head _))), fun q hq => .tail _ (.tail _ (.tail _ (.tail _ hq))), ?_, ?_, ?_, ?_, ?_⟩
  · simp only [List.mem_cons, List.mem_append] at hq ⊢
    rcases hq with hq | hq | hq | hq | hq | hq | hq | hq <;> simp [hq]
  · simp only [List.mem_cons, List.mem_append] at hq
    rcases hq with rfl | rfl | rfl | rfl | rfl | hq | hq
    · exact Ne.symm hIR
    · exact Ne.symm hIP
    · exact hoff _ mC
    · exact hoff _ mD
    · exact hTI
    · exact oI q (.tail _ hq)
    · exact xI q hq
  · exact (hRs.mono fun q hq => .tail _ (List.mem_append_right _ hq)).snoc (.head _) (.tail _ (List.mem_append_left _ mA)) hK hc hsp (by omega)
  · rw [List.length_append, hln]; rfl
  · have e : 1 + 3 * (i + 1) = 1 + 3 * i + 1 + 1 + 1 := by omega
    rw [e]; exact hP
  · exact OffA.cons hTP (o2.app xP)
  · exact OffA.cons hTR (OffA.app (fun q hq => oR q (.tail _ hq)) xR)
end
local macro_rules | `(tactic| k_mem) => `(tactic| ((repeat (first | exact List.Mem.head _ | apply List.Mem.tail)); done))
section
@[reducible] noncomputable def tail9 : List Stmt := by
  have e : b360.drop 9 = b360.drop 9 := rfl
  conv at e => lhs; whnf
  exact lhsOf e
noncomputable def KeysJ (Pn Cl : Addr) (k0 : Nat) (fixed : Led) (i : Nat) (ys : List Value) (nx : Led) : Prop := ∃ oP, nx = (Pn, oP) :: fixed ∧ PenIs Cl (k0 + i) oP ∧ ys.length ≤ i ∧ ∃ ks, KeysAre ys ks
open PyProof.Rows.LCg in
theorem keys_front {h₀ h : Heap} {L C D Pn : Addr} {oC oP : Obj} {ys : List Value} {own fixed : Led} (N : News h₀ L h ((C, oC) :: (D, lst ys) :: (own ++ (Pn, oP) :: fixed))) : News h₀ L h ((Pn, oP) :: (C, oC) :: (D, lst ys) :: (own ++ fixed)) := fun q hq => N q (by
  simp only [List.mem_cons, List.mem_append] at hq ⊢
  rcases hq with hq | hq | hq | hq | hq <;> simp [hq])
open PyProof.Rows.LCg in
theorem keys_off {C D Pn I l : Addr} {oC2 oP : Obj} {ys : List Value} {own fixed : Led} (offN : ∀ p ∈ (Pn, oP) :: fixed, p.1 ∉ [I] ∧ p.1 ≠ C ∧ p.1 ≠ D) (offO : ∀ p ∈ own, p.1 ∈ [I, l] ∧ p.1 ≠ C ∧ p.1 ≠ D) (o : OffA fixed Pn) (hl : Pn ≠ l) :
    OffA ((C, oC2) :: (D, lst ys) :: (own ++ fixed)) Pn := by
  have h0 := offN (Pn, oP) (.head _)
  refine OffA.cons (Ne.symm h0.2.1) (OffA.cons (Ne.symm h0.2.2) (OffA.app (fun q hq e => ?_) o))
  rcases List.mem_cons.mp (offO q hq).1 with h | h
  · exact h0.1 (by rw [← e, h]; exact .head _)
  · exact hl (by rw [← e]; exact List.mem_singleton.mp h)
theorem KeysAre.snoc {vs : List Value} {ks : List Key} {k : Key} {t : Tok} (r : KeysAre vs ks) (hz : vs.length < 100) : KeysAre (vs ++ [.str k.str t]) (ks ++ [k]) := by
  refine ⟨by rw [List.length_append, List.length_append, r.len]; rfl, by rw [List.length_append]; exact hz, fun i v e => ?_⟩
  rw [List.getElem?_append] at e ⊢
  rw [← r.len]
  split at e
  · rename_i hi
    rw [if_pos hi]
    exact r.get i v e
  · rename_i hi
    rw [if_neg hi]
    have hj : i - vs.length = 0 := by
      have := (List.getElem?_eq_some_iff.mp e).1
      simp only [List.length_singleton] at this
      omega
    rw [hj] at e ⊢
    cases e
    exact ⟨k, t, rfl, rfl⟩
theorem KeysAre.reverse : ∀ {vs : List Value} {ks : List Key}, KeysAre vs ks → KeysAre vs.reverse ks.reverse := by
  intro vs ks h
  refine ⟨by rw [List.length_reverse, List.length_reverse, h.len], by rw [List.length_reverse]; exact h.small, fun i v e => ?_⟩
  have hi := (List.getElem?_eq_some_iff.mp e).1
  rw [List.length_reverse] at hi
  rw [List.getElem?_reverse hi] at e
  rw [List.getElem?_reverse (by rw [← h.len]; exact hi), ← h.len]
  exact h.get _ v e
open PyProof.Rows.LCg in
theorem keys_take {g h : Heap} {L C D Pn Cl I : Addr} {oC2 oQ o2 : Obj} {m : PySem.Str → Option Value} {m₂ : PySem.Str → Option Value} {s₁ : Shared} {ys : List Value} {own fixed : Led} {ks : List Key} {k0 i tk : Nat} {ky : Key} {tky : Tok} (N : News g L h ((Pn, o2) :: (C, oC2) :: (D, lst ys) :: (own ++ fixed))) (F : Fr g L h m) (hC : NsObj oC2 m₂)
    (offN : ∀ p ∈ (Pn, oQ) :: fixed, p.1 ∉ [I] ∧ p.1 ≠ C ∧ p.1 ≠ D) (hi : i < 90) (hP : PenIs Cl (k0 + i + 1) o2) (hl : ys.length ≤ i) (hk : KeysAre ys ks) :
    TurnEnd g L m s₁ own C D [I] ys (KeysJ Pn Cl k0 fixed (i + 1)) (.str ky.str tky) { s₁ with heap := h, toks := tk } := by
  refine ⟨h, tk, oC2, m₂, (Pn, o2) :: fixed, rfl, hC, F, fun q hq => N q ?_, fun q hq => ?_, o2, rfl, hP, ?_, _, hk.snoc (by omega)⟩
  · simp only [List.mem_cons, List.mem_append] at hq ⊢
    rcases hq with hq | hq | hq | hq | hq <;> simp [hq]
  · rcases List.mem_cons.mp hq with rfl | hq
    · exact offN (Pn, oQ) (.head _)
    · exact offN q (.tail _ hq)
  · rw [List.length_append]; exact Nat.succ_le_succ hl
open PyProof.Rows.LCg in
theorem keys_skip {g h : Heap} {L C D Pn Cl I : Addr} {oC2 oQ o2 : Obj} {m : PySem.Str → Option Value} {m₂ : PySem.Str → Option Value} {s₁ : Shared} {ys : List Value} {own fixed : Led} {ks : List Key} {k0 i tk : Nat} (N : News g L h ((Pn, o2) :: (C, oC2) :: (D, lst ys) :: (own ++ fixed))) (F : Fr g L h m) (hC : NsObj oC2 m₂)
    (offN : ∀ p ∈ (Pn, oQ) :: fixed, p.1 ∉ [I] ∧ p.1 ≠ C ∧ p.1 ≠ D) (hP : PenIs Cl (k0 + i + 1) o2) (hl : ys.length ≤ i) (hk : KeysAre ys ks) :
    SkipEnd g L m s₁ own C D [I] ys (KeysJ Pn Cl k0 fixed (i + 1)) { s₁ with heap := h, toks := tk } := by
  refine ⟨h, tk, oC2, m₂, (Pn, o2) :: fixed, rfl, hC, F, fun q hq => N q ?_, fun q hq => ?_, o2, rfl, hP, Nat.le_succ_of_le hl, _, hk⟩
  · simp only [List.mem_cons, List.mem_append] at hq ⊢
    rcases hq with hq | hq | hq | hq | hq <;> simp [hq]
  · rcases List.mem_cons.mp hq with rfl | hq
    · exact offN (Pn, oQ) (.head _)
    · exact offN q (.tail _ hq)
theorem ten_keys {g h : Heap} {L Ev : Addr} {q : Addr × Obj} {rest : Led} {t0 t1 t2 t3 t4 t5 t6 t7 t8 t9 : Tok} {n : Nat}
    (N : News g L h (q :: (Ev, listOf [Value.str (S "size") t0, .str (S "not size") t1, .str (S "over") t2, .str (S "not over") t3, .str (S "end") t4, .str (S "not end") t5, .str (S "invalid") t6, .str (S "not invalid") t7, .str (S "fault") t8, .str (S "not fault") t9].toArray n) :: rest)) :
    ∃ tv : List Value, (∀ v ∈ tv, ∃ (k : Key) (t : Tok), v = .str k.str t) ∧ tv.length = 10 ∧ News g L h (q :: (Ev, listOf tv.toArray n) :: rest) := by
  refine ⟨_, fun v hv => ?_, rfl, N⟩
  simp only [List.mem_cons, List.not_mem_nil, or_false] at hv
  rcases hv with rfl | rfl | rfl | rfl | rfl | rfl | rfl | rfl | rfl | rfl
  · exact ⟨.size, _, rfl⟩
  · exact ⟨.nsize, _, rfl⟩
  · exact ⟨.over, _, rfl⟩
  · exact ⟨.nover, _, rfl⟩
  · exact ⟨.done, _, rfl⟩
  · exact ⟨.ndone, _, rfl⟩
  · exact ⟨.inv, _, rfl⟩
  · exact ⟨.ninv, _, rfl⟩
  · exact ⟨.fault, _, rfl⟩
  · exact ⟨.nfault, _, rfl⟩
section
variable {w : World} {Q : Flow → Shared → Prop} {E : Value → Shared → Prop} {s : Shared} {h₀ : Heap} {L : Addr} {mg mb : PySem.Str → Option Value} {p : Program} {loose : List PySem.Str} {mean : ExcName → Option Value} {u : PySem.Str → Option Value}
  {dp un : Nat} {gd : Option (List Code)} {ccd : Value} {fa : Addr} {oP oD : Obj} {Pn Cl Rw : Addr} {cvs rvs : List Value} {nc nr i : Nat} {rows : List (Sp × Nat)} {extras : Led}
theorem law_tail2 {bd : List Stmt} (hb : bd = tail9) (B : Below callerA h₀ [] h₀) (F : Fr h₀ L s.heap (lawmap u Rw)) (X : (Mine.heap w.params).In h₀) (N : News h₀ L s.heap ((Pn, oP) :: (Rw, listOf rvs.toArray nr) :: (Cl, listOf cvs.toArray nc) :: (L + 1, oD) :: extras)) (hoD : oD.data = .cell (some (.ref Pn))) (T : Top p loose mean mg mb h₀)
    (hRs : RowsAre extras rvs rows) (hPen : PenIs Cl (1 + 3 * i) oP) (hi : i ≤ 10) (hCells : CellsOk cvs) (oPn : OffA ((Rw, listOf rvs.toArray nr) :: (Cl, listOf cvs.toArray nc) :: (L + 1, oD) :: extras) Pn) (hd : dp + 40 < recursionLimit) (hu : un + 320 < cLine)
    (ret : ∀ h' tk' m', Fr h₀ L h' m' → Q (.ret (.bool true)) { s with heap := h', toks := tk' }) :
    wpAny (model PySem.Challenge.rw_pb0257_01.row.prog w) (ktrTop dp un gd (S "law") s360 L fa ccd [(S "pen", L + 1)] []) (execs bd (envX (S "law") s360 L fa ccd [(S "pen", L + 1)])) Q E s := by
  subst hb
  revert X
  k_fill
  w_on
  intro X
  repeat' (first | (k_unfold; (try dsimp only)) | (k_end; wrow_close) | ((fail_if_success (with_reducible show wpAny _ _ (PySem.call (Value.ref 312) _) _ _ _)); walk1; (try dsimp only)) | ((fail_if_success (with_reducible show wpAny _ _ (PySem.call (Value.ref 312) _) _ _ _)); dsimp only; (fail_if_success (with_reducible show wpAny _ _ (PySem.call (Value.ref 312) _) _ _ _)); walk1) | ((fail_if_success (with_reducible show wpAny _ _ (PySem.call (Value.ref 312) _) _ _ _)); leave1; walk_say "STEP leave1"; try dsimp only) | fail "no step")
  try dsimp only
  rename_i Ev _ lE hE0 kF kN
  have kN2 := led_swap kN
  have oE := off_new lE oPn
  clear kN
  refine' draw_ct (k := 1 + 3 * i) (o := oP) B ?F X kN2 T rfl (oE _) (cold_tail kN2) (oE _) hPen (.tail _ (.tail _ (.head _))) hCells (by omega) (by decide) (by decide) ?hd ?hu ?_
  case F => k_asm
  case hd => ktr_room
  case hu => ktr_units
  intro d t0 o1 h1 tk1 hd0 hd1 hP1 F1 N1
  clear kN2
  obtain ⟨tv, hten, htl, N2⟩ := ten_keys N1
  clear N1
  repeat' (first | (k_unfold; (try dsimp only)) | (k_end; wrow_close) | ((fail_if_success (with_reducible show wpAny _ _ (exec (Stmt.Assign _ (PySem.Expr.ListComp _ _ _ _) _) _) _ _ _)); walk1; (try dsimp only)) | ((fail_if_success (with_reducible show wpAny _ _ (exec (Stmt.Assign _ (PySem.Expr.ListComp _ _ _ _) _) _) _ _ _)); dsimp only; (fail_if_success (with_reducible show wpAny _ _ (exec (Stmt.Assign _ (PySem.Expr.ListComp _ _ _ _) _) _) _ _ _)); walk1) | ((fail_if_success (with_reducible show wpAny _ _ (exec (Stmt.Assign _ (PySem.Expr.ListComp _ _ _ _) _) _) _ _ _)); leave1; walk_say "STEP leave1"; try dsimp only) | fail "no step")
  have hdn : d = (d.toNat : Int) := (Int.toNat_of_nonneg hd0).symm
  refine' assign_compF (h₀ := h₀) (m := fun y => if y = S "begin" then some (Value.int d t0) else if y = S "every" then some (Value.ref Ev) else lawmap u Rw y) (cl := [(S "pen", L + 1)]) (by exact rfl) ?lca ?lcb ?lcc ?lcd (by exact rfl) (by exact rfl) ?lce ?lcf
  case lca => with_unfolding_all rfl
  case lcb => decide
  case lcc => rfl
  case lcd => decide
  case lcf => intro _; rfl
  repeat' (first | (k_unfold; (try dsimp only)) | (k_end; wrow_close) | ((fail_if_success (with_reducible show wpAny _ _ (subscriptTail _ _ (Value.ref _) _) _ _ _)); walk1; (try dsimp only)) | ((fail_if_success (with_reducible show wpAny _ _ (subscriptTail _ _ (Value.ref _) _) _ _ _)); dsimp only; (fail_if_success (with_reducible show wpAny _ _ (subscriptTail _ _ (Value.ref _) _) _ _ _)); walk1) | ((fail_if_success (with_reducible show wpAny _ _ (subscriptTail _ _ (Value.ref _) _) _ _ _)); leave1; walk_say "STEP leave1"; try dsimp only) | fail "no step")
  try dsimp only
  refine l_slice (vs := tv.drop d.toNat) (by k_asm) (by k_asm) (News.isList (by k_asm) (.tail _ (.head _))) (.int _ _) .none (by rw [hdn]; exact slicePick_from' _ _) (by rw [List.size_toArray]; omega) fun D1 h3 F3 N3 l3 => ?_
  clear l3
  repeat' (first | (k_unfold; (try dsimp only)) | (k_end; wrow_close) | ((fail_if_success (with_reducible show wpAny _ _ (subscriptTail _ _ (Value.ref _) _) _ _ _)); walk1; (try dsimp only)) | ((fail_if_success (with_reducible show wpAny _ _ (subscriptTail _ _ (Value.ref _) _) _ _ _)); dsimp only; (fail_if_success (with_reducible show wpAny _ _ (subscriptTail _ _ (Value.ref _) _) _ _ _)); walk1) | ((fail_if_success (with_reducible show wpAny _ _ (subscriptTail _ _ (Value.ref _) _) _ _ _)); leave1; walk_say "STEP leave1"; try dsimp only) | fail "no step")
  try dsimp only
  refine l_slice (vs := tv.take d.toNat) (by k_asm) (by k_asm) (News.isList (by k_asm) (.tail _ (.tail _ (.head _)))) .none (.int _ _) (by rw [hdn]; exact slicePick_upto' _ _) (by rw [List.size_toArray]; omega) fun D2 h4 F4 N4 l4 => ?_
  clear l4
  repeat' (first | (k_unfold; (try dsimp only)) | (k_end; wrow_close) | ((fail_if_success (with_reducible show wpAny _ _ (binaryOp Operator.Add (Value.ref _) (Value.ref _)) _ _ _)); walk1; (try dsimp only)) | ((fail_if_success (with_reducible show wpAny _ _ (binaryOp Operator.Add (Value.ref _) (Value.ref _)) _ _ _)); dsimp only; (fail_if_success (with_reducible show wpAny _ _ (binaryOp Operator.Add (Value.ref _) (Value.ref _)) _ _ _)); walk1) | ((fail_if_success (with_reducible show wpAny _ _ (binaryOp Operator.Add (Value.ref _) (Value.ref _)) _ _ _)); leave1; walk_say "STEP leave1"; try dsimp only) | fail "no step")
  try dsimp only
  refine l_add (by k_asm) (by k_asm) (.tail _ (.head _)) (.head _) (by rw [List.length_drop, List.length_take]; omega) fun D3 h5 F5 N5 l5 => ?_
  repeat' (first | (k_unfold; (try dsimp only)) | (k_end; wrow_close) | ((fail_if_success (with_reducible show wpAny _ _ (pyIter (Value.ref _)) _ _ _)); walk1; (try dsimp only)) | ((fail_if_success (with_reducible show wpAny _ _ (pyIter (Value.ref _)) _ _ _)); dsimp only; (fail_if_success (with_reducible show wpAny _ _ (pyIter (Value.ref _)) _ _ _)); walk1) | ((fail_if_success (with_reducible show wpAny _ _ (pyIter (Value.ref _)) _ _ _)); leave1; walk_say "STEP leave1"; try dsimp only) | fail "no step")
  have hD3P : Pn < D3 := l5 (Pn, o1) (.tail _ (.tail _ (.head _)))
  have hvl : (tv.drop d.toNat ++ tv.take d.toNat).length ≤ 20 := by rw [List.length_append, List.length_drop, List.length_take]; omega
  have hten2 : ∀ v ∈ tv.drop d.toNat ++ tv.take d.toNat, ∃ (k : Key) (t : Tok), v = .str k.str t := fun v hv => hten v ((List.mem_append.mp hv).elim List.mem_of_mem_drop List.mem_of_mem_take)
  generalize tv.drop d.toNat ++ tv.take d.toNat = zv at N5 hvl hten2
  have N6 : News h₀ L h5 ((Pn, o1) :: (Rw, listOf rvs.toArray nr) :: (Cl, listOf cvs.toArray nc) :: (L + 1, oD) :: extras) := fun q hq => N5 q (.tail _ (.tail _ (.tail _ (by
    rcases List.mem_cons.mp hq with hq | hq
    · rw [hq]; exact .head _
    · exact .tail _ (.tail _ hq)))))
  have hz := (N5 _ (.head _)).1
  have hzL := (N5 _ (.head _)).2.1
  clear N5 l5 N4 N3
  refine compF_list (vs := zv) (nl := 0) (KeysJ Pn Cl (1 + 3 * i + 1) ((Rw, listOf rvs.toArray nr) :: (Cl, listOf cvs.toArray nc) :: (L + 1, oD) :: extras)) (by exact rfl) ⟨_, hz, rfl, _, rfl⟩ hzL (by rw [sizeLine_eq]; omega) F5 N6 ⟨o1, rfl, hP1, Nat.zero_le _, [], KeysAre.nil⟩ ?turn ?done
  case turn =>
    intro i2 v ys news₁ h₁ tk₁ own C oC D m₁ E' hv hJ offN offO hCD hCL hfp hC₀ hoC F₁ N₁
    obtain ⟨oQ, rfl, hPq, hyl, ks, hks⟩ := hJ
    obtain ⟨ky, tky, rfl⟩ := hten2 v (List.mem_of_getElem? hv)
    have hi2 : i2 < 20 := Nat.lt_of_lt_of_le (List.getElem?_eq_some_iff.mp hv).1 hvl
    refine asg1 (by exact rfl) rfl (hoC.ns (N₁ _ (List.mem_append_right _ List.mem_cons_self)).1) fun h6 tk6 hn6 hk6 => ?_
    refine wpAny_tests_one ?_
    obtain ⟨m₂, e1, hn7⟩ : ∃ m₂, m₂ (S "key") = some (.str ky.str tky) ∧ h6.Ns C m₂ := ⟨_, rfl, hn6⟩
    obtain ⟨F7, oC2, hoC2, N7⟩ := turn_after F₁ N₁ hCD hCL hC₀ (fun p hp => (offO p hp).2.1) (fun p hp => (offN p hp).2.1) hk6 hn7
    have N8 := keys_front N7
    have oK := keys_off (oC2 := oC2) (ys := ys) offN offO oPn (Nat.ne_of_lt hD3P)
    clear hn6 hn7 hoC F₁ N₁ hk6 N7 N6 F5
    try dsimp only
    repeat' (first | (k_unfold; (try dsimp only)) | (k_end; wrow_close) | ((fail_if_success (with_reducible show wpAny _ _ (PySem.call (Value.ref 312) _) _ _ _)); walk1; (try dsimp only)) | ((fail_if_success (with_reducible show wpAny _ _ (PySem.call (Value.ref 312) _) _ _ _)); dsimp only; (fail_if_success (with_reducible show wpAny _ _ (PySem.call (Value.ref 312) _) _ _ _)); walk1) | ((fail_if_success (with_reducible show wpAny _ _ (PySem.call (Value.ref 312) _) _ _ _)); leave1; walk_say "STEP leave1"; try dsimp only) | fail "no step")
    try dsimp only
    refine' draw_ct (k := 1 + 3 * i + 1 + i2) (o := oQ) B ?F X N8 T rfl oK (cold_tail N8) oK hPq (.tail _ (.tail _ (List.mem_append_right _ (.tail _ (.head _))))) hCells (by omega) (by decide) (by decide) ?hd ?hu ?_
    case F => k_asm
    case hd => ktr_room
    case hu => ktr_units
    intro d2 t2 o2 h8 tk8 hd2 hd3 hP8 F8 N9
    clear N8
    repeat' (first | (k_unfold; (try dsimp only)) | (k_end; wrow_close) | (walk1; (try dsimp only)) | (dsimp only; walk1) | (leave1; walk_say "STEP leave1"; try dsimp only) | fail "no step")
    · exact keys_take (tk := tk8 + 1) N9 F8 hoC2 offN (by omega) hP8 hyl hks
    · exact keys_skip (tk := tk8 + 1) N9 F8 hoC2 offN hP8 hyl hks
  case done =>
    rintro D6 h9 tk9 ys news' F9 N9 off9 ⟨oQ, rfl, hPq, hyl, ks, hks⟩
    change News h₀ L h9 ((D6, listOf ys.toArray ys.length) :: _) at N9
    have N10 := led_swap N9
    have oD6 : OffA ((D6, listOf ys.toArray ys.length) :: (Rw, listOf rvs.toArray nr) :: (Cl, listOf cvs.toArray nc) :: (L + 1, oD) :: extras) Pn := OffA.cons (Ne.symm (off9 _ (.head _))) oPn
    clear N9 N6 F5 off9
    try dsimp only
    repeat' (first | (k_unfold; (try dsimp only)) | (k_end; wrow_close) | ((fail_if_success (with_reducible show wpAny _ _ (PySem.call (Value.ref 312) _) _ _ _)); walk1; (try dsimp only)) | ((fail_if_success (with_reducible show wpAny _ _ (PySem.call (Value.ref 312) _) _ _ _)); dsimp only; (fail_if_success (with_reducible show wpAny _ _ (PySem.call (Value.ref 312) _) _ _ _)); walk1) | ((fail_if_success (with_reducible show wpAny _ _ (PySem.call (Value.ref 312) _) _ _ _)); leave1; walk_say "STEP leave1"; try dsimp only) | fail "no step")
    try dsimp only
    refine' draw_ct (k := 1 + 3 * i + 1 + zv.length) (o := oQ) B ?F X N10 T rfl oD6 (cold_tail N10) oD6 hPq (.tail _ (.tail _ (.head _))) hCells (by omega) (by decide) (by decide) ?hd ?hu ?_
    case F => k_asm
    case hd => ktr_room
    case hu => ktr_units
    intro d3 t3 o3 h10 tk10 hd4 hd5 hP10 F10 N11
    have N12 := led_swap N11
    clear N10 N11
    repeat' (first | (k_unfold; (try dsimp only)) | (k_end; wrow_close) | ((fail_if_success (with_reducible show wpAny _ _ (subscriptTail _ _ (Value.ref _) _) _ _ _)); (fail_if_success (with_reducible show wpAny _ _ (PySem.call (Value.type "tuple") _) _ _ _)); walk1; (try dsimp only)) | ((fail_if_success (with_reducible show wpAny _ _ (subscriptTail _ _ (Value.ref _) _) _ _ _)); (fail_if_success (with_reducible show wpAny _ _ (PySem.call (Value.type "tuple") _) _ _ _)); dsimp only; (fail_if_success (with_reducible show wpAny _ _ (subscriptTail _ _ (Value.ref _) _) _ _ _)); (fail_if_success (with_reducible show wpAny _ _ (PySem.call (Value.type "tuple") _) _ _ _)); walk1) | ((fail_if_success (with_reducible show wpAny _ _ (subscriptTail _ _ (Value.ref _) _) _ _ _)); (fail_if_success (with_reducible show wpAny _ _ (PySem.call (Value.type "tuple") _) _ _ _)); leave1; walk_say "STEP leave1"; try dsimp only) | fail "no step")
    · try dsimp only
      refine l_rev (by k_asm) (by k_asm) (.head _) (by omega) fun DR hR1 FR1 NR1 lR => ?_
      clear lR
      repeat' (first | (k_unfold; (try dsimp only)) | (k_end; wrow_close) | ((fail_if_success (with_reducible show wpAny _ _ (PySem.call (Value.type "tuple") _) _ _ _)); walk1; (try dsimp only)) | ((fail_if_success (with_reducible show wpAny _ _ (PySem.call (Value.type "tuple") _) _ _ _)); dsimp only; (fail_if_success (with_reducible show wpAny _ _ (PySem.call (Value.type "tuple") _) _ _ _)); walk1) | ((fail_if_success (with_reducible show wpAny _ _ (PySem.call (Value.type "tuple") _) _ _ _)); leave1; walk_say "STEP leave1"; try dsimp only) | fail "no step")
      try dsimp only
      refine kde_tupleOf (by k_asm) (by k_asm) (News.isList (by k_asm) (.head _)) (by rw [List.size_toArray]; rw [List.length_reverse]; omega) rfl ?_
      intro Kt h15 F15 N15 l15
      change News h₀ L h15 ((Kt, tupObj ys.reverse 0) :: _) at N15
      repeat' (first | (k_unfold; (try dsimp only)) | (k_end; wrow_close) | ((fail_if_success (with_reducible show wpAny _ _ (PySem.call (Value.ref 355) _) _ _ _)); walk1; (try dsimp only)) | ((fail_if_success (with_reducible show wpAny _ _ (PySem.call (Value.ref 355) _) _ _ _)); dsimp only; (fail_if_success (with_reducible show wpAny _ _ (PySem.call (Value.ref 355) _) _ _ _)); walk1) | ((fail_if_success (with_reducible show wpAny _ _ (PySem.call (Value.ref 355) _) _ _ _)); leave1; walk_say "STEP leave1"; try dsimp only) | fail "no step")
      try dsimp only
      refine' right_ct (nr := nr) (nk := 0) (rvs := rvs) (kvs := ys.reverse) (rows := rows) (ks := ks.reverse) B ?F X N15 T rfl (fun q hq => News.at_led N15 hq) (.tail _ (.tail _ (.tail _ (.tail _ (.head _))))) (hRs.mono fun q hq => .tail _ (.tail _ (.tail _ (.tail _ (.tail _ (.tail _ (.tail _ hq))))))) (.head _) hks.reverse ?hd ?hu ?_
      case F => k_asm
      case hd => ktr_room
      case hu => ktr_units
      intro h16 tk16 F16 N16
      repeat' (first | (k_unfold; (try dsimp only)) | (k_end; wrow_close) | (walk1; (try dsimp only)) | (dsimp only; walk1) | (leave1; walk_say "STEP leave1"; try dsimp only) | fail "no step")
      exact ret _ _ _ F16
    · skip
      try dsimp only
      refine kde_tupleOf (by k_asm) (by k_asm) (News.isList (by k_asm) (.head _)) (by rw [List.size_toArray]; omega) rfl ?_
      intro Kt h15 F15 N15 l15
      change News h₀ L h15 ((Kt, tupObj ys 0) :: _) at N15
      repeat' (first | (k_unfold; (try dsimp only)) | (k_end; wrow_close) | ((fail_if_success (with_reducible show wpAny _ _ (PySem.call (Value.ref 355) _) _ _ _)); walk1; (try dsimp only)) | ((fail_if_success (with_reducible show wpAny _ _ (PySem.call (Value.ref 355) _) _ _ _)); dsimp only; (fail_if_success (with_reducible show wpAny _ _ (PySem.call (Value.ref 355) _) _ _ _)); walk1) | ((fail_if_success (with_reducible show wpAny _ _ (PySem.call (Value.ref 355) _) _ _ _)); leave1; walk_say "STEP leave1"; try dsimp only) | fail "no step")
      try dsimp only
      refine' right_ct (nr := nr) (nk := 0) (rvs := rvs) (kvs := ys) (rows := rows) (ks := ks) B ?F X N15 T rfl (fun q hq => News.at_led N15 hq) (.tail _ (.tail _ (.tail _ (.head _)))) (hRs.mono fun q hq => .tail _ (.tail _ (.tail _ (.tail _ (.tail _ (.tail _ hq)))))) (.head _) hks ?hd ?hu ?_
      case F => k_asm
      case hd => ktr_room
      case hu => ktr_units
      intro h16 tk16 F16 N16
      repeat' (first | (k_unfold; (try dsimp only)) | (k_end; wrow_close) | (walk1; (try dsimp only)) | (dsimp only; walk1) | (leave1; walk_say "STEP leave1"; try dsimp only) | fail "no step")
      exact ret _ _ _ F16
end
end
section
/-- the statements that follow the pen's -/
@[reducible] noncomputable def tail7 : List Stmt := by
  have e : b360.drop 7 = b360.drop 7 := rfl
  conv at e => lhs; whnf
  exact lhsOf e
section
variable {w : World} {Q : Flow → Shared → Prop} {E : Value → Shared → Prop} {s : Shared} {h₀ : Heap} {L : Addr} {m mg mb : PySem.Str → Option Value} {p : Program} {loose : List PySem.Str} {mean : ExcName → Option Value}
  {dp un : Nat} {gd : Option (List Code)} {ccd : Value} {fa : Addr} {oP oD : Obj} {Pn Cl : Addr} {cvs : List Value} {nc : Nat}
theorem law_tail {bd : List Stmt} (hb : bd = tail7) (B : Below callerA h₀ [] h₀) (F : Fr h₀ L s.heap m) (X : (Mine.heap w.params).In h₀) (N : News h₀ L s.heap [(Pn, oP), (Cl, listOf cvs.toArray nc), (L + 1, oD)]) (hoD : oD.data = .cell (some (.ref Pn))) (T : Top p loose mean mg mb h₀)
    (hPen : PenIs Cl 0 oP) (hCells : CellsOk cvs) (hne : Pn ≠ Cl) (hLP : L + 1 ≠ Pn) (hLC : L + 1 ≠ Cl) (hd : dp + 40 < recursionLimit) (hu : un + 320 < cLine)
    (hE : PassesOwn (model PySem.Challenge.rw_pb0257_01.row.prog w) (ktrTop dp un gd (S "law") s360 L fa ccd [(S "pen", L + 1)] []) (envX (S "law") s360 L fa ccd [(S "pen", L + 1)]) E)
    (ret : ∀ h' tk' m', Fr h₀ L h' m' → Q (.ret (.bool true)) { s with heap := h', toks := tk' }) :
    wpAny (model PySem.Challenge.rw_pb0257_01.row.prog w) (ktrTop dp un gd (S "law") s360 L fa ccd [(S "pen", L + 1)] []) (execs bd (envX (S "law") s360 L fa ccd [(S "pen", L + 1)])) Q E s := by
  subst hb
  revert X
  k_fill
  w_on
  intro X
  repeat' (first | (k_unfold; (try dsimp only)) | (k_end; wrow_close) | ((fail_if_success (with_reducible show wpAny _ _ (exec (Stmt.For _ _ _ _ _) _) _ _ _)); walk1; (try dsimp only)) | ((fail_if_success (with_reducible show wpAny _ _ (exec (Stmt.For _ _ _ _ _) _) _ _ _)); dsimp only; (fail_if_success (with_reducible show wpAny _ _ (exec (Stmt.For _ _ _ _ _) _) _ _ _)); walk1) | ((fail_if_success (with_reducible show wpAny _ _ (exec (Stmt.For _ _ _ _ _) _) _ _ _)); leave1; walk_say "STEP leave1"; try dsimp only) | fail "no step")
  refine For_invV h₀ (by exact rfl) (by exact rfl) ?_ (hE := hE)
  repeat' (first | (k_unfold; (try dsimp only)) | (k_end; wrow_close) | ((fail_if_success (with_reducible show wpAny _ _ (PySem.call (Value.ref 312) _) _ _ _)); walk1; (try dsimp only)) | ((fail_if_success (with_reducible show wpAny _ _ (PySem.call (Value.ref 312) _) _ _ _)); dsimp only; (fail_if_success (with_reducible show wpAny _ _ (PySem.call (Value.ref 312) _) _ _ _)); walk1) | ((fail_if_success (with_reducible show wpAny _ _ (PySem.call (Value.ref 312) _) _ _ _)); leave1; walk_say "STEP leave1"; try dsimp only) | fail "no step")
  try dsimp only
  rename_i Rw _ lR hR0 kF kN
  refine' draw_ct (cold := [(Cl, listOf cvs.toArray nc)]) (news := [(Rw, listOf #[] 0), (Cl, listOf cvs.toArray nc), (L + 1, oD)]) (k := 0) (o := oP) B ?F X ?N T rfl ?dn ?hC ?dc hPen (.head _) hCells (by decide) (by decide) (by decide) ?hd ?hu ?_
  case F => k_asm
  case N => exact fun q hq => kN q (by simp only [List.mem_cons] at hq ⊢; rcases hq with hq | hq | hq | hq | hq <;> simp [hq])
  case dn => exact OffA.cons (Ne.symm (Nat.ne_of_lt lR.1)) (OffA.cons (Ne.symm hne) (OffA.cons hLP OffA.nil))
  case hC => exact fun q hq => (kN q (by rw [List.mem_singleton.mp hq]; k_mem)).1
  case dc => exact OffA.cons (Ne.symm hne) OffA.nil
  case hd => ktr_room
  case hu => ktr_units
  intro d t0 o1 h1 tk1 hd0 hd1 hP1 F1 N1
  repeat' (first | (k_unfold; (try dsimp only)) | (k_end; wrow_close) | ((fail_if_success (with_reducible show wpAny _ _ (PySem.call (Value.type "range") _) _ _ _)); walk1; (try dsimp only)) | ((fail_if_success (with_reducible show wpAny _ _ (PySem.call (Value.type "range") _) _ _ _)); dsimp only; (fail_if_success (with_reducible show wpAny _ _ (PySem.call (Value.type "range") _) _ _ _)); walk1) | ((fail_if_success (with_reducible show wpAny _ _ (PySem.call (Value.type "range") _) _ _ _)); leave1; walk_say "STEP leave1"; try dsimp only) | fail "no step")
  try dsimp only
  refine range1_rows (by k_asm) (by k_asm) fun h2 tk2 t1 u1 v1 hr F2 N2 _ => ?_
  have hdn : d = (d.toNat : Int) := (Int.toNat_of_nonneg hd0).symm
  have hlR : Rw ≠ Pn := Ne.symm (Nat.ne_of_lt lR.1)
  clear kF kN F1 N1
  try dsimp only
  refine loop_range (n := d.toNat) (LawJ Pn Cl Rw (L + 1) oD cvs nc) (by exact rfl) hr hdn (by omega) F2 N2 ⟨m, o1, [], [], 0, [], rfl, .head _, .tail _ (.head _), .tail _ (.tail _ (.head _)), .tail _ (.tail _ (.tail _ (.head _))), (fun q hq => nomatch hq), RowsAre.nil, rfl, hP1, OffA.nil, OffA.nil⟩ ?turn ?done
  case turn =>
    clear F2 N2 hr
    rintro i v m₁ nx I it h tk hin hit ⟨u, oP, rvs, rows, nr, extras, rfl, mP, mR, mC, mD, mX, hRs, hln, hPn, oXP, oXR⟩ hoff F1 N1
    have N2 : News h₀ L h ((Pn, oP) :: (I, it) :: (Cl, listOf cvs.toArray nc) :: (Rw, listOf rvs.toArray nr) :: (L + 1, oD) :: extras) := fun q hq => N1 q (by
      simp only [List.mem_cons] at hq ⊢
      rcases hq with rfl | hq | rfl | rfl | rfl | hq
      · exact .inr mP
      · exact .inl hq
      · exact .inr mC
      · exact .inr mR
      · exact .inr mD
      · exact .inr (mX q hq))
    have hIP : I ≠ Pn := fun e => hoff _ mP e.symm
    have hIR : I ≠ Rw := fun e => hoff _ mR e.symm
    have hIX : OffA extras I := fun q hq => hoff q (mX q hq)
    clear N1
    have oP2 : OffA ((I, it) :: (Cl, listOf cvs.toArray nc) :: (Rw, listOf rvs.toArray nr) :: (L + 1, oD) :: extras) Pn := OffA.cons hIP (OffA.cons (Ne.symm hne) (OffA.cons hlR (OffA.cons hLP oXP)))
    change Fr h₀ L h _ at F1
    change News h₀ L h _ at N2
    try dsimp only
    repeat' (first | (k_unfold; (try dsimp only)) | (k_end; wrow_close) | ((fail_if_success (with_reducible show wpAny _ _ (PySem.call (Value.ref 336) _) _ _ _)); walk1; (try dsimp only)) | ((fail_if_success (with_reducible show wpAny _ _ (PySem.call (Value.ref 336) _) _ _ _)); dsimp only; (fail_if_success (with_reducible show wpAny _ _ (PySem.call (Value.ref 336) _) _ _ _)); walk1) | ((fail_if_success (with_reducible show wpAny _ _ (PySem.call (Value.ref 336) _) _ _ _)); leave1; walk_say "STEP leave1"; try dsimp only) | fail "no step")
    refine' phrases_ct (news := (Pn, oP) :: (I, it) :: (Cl, listOf cvs.toArray nc) :: (Rw, listOf rvs.toArray nr) :: (L + 1, oD) :: extras) B ?F X ?N T rfl ?hd ?hu ?_
    case F => k_asm
    case N => k_asm
    case hd => ktr_room
    case hu => ktr_units
    intro D pvs nD ex2 h3 tk3 F3 N3 hPh hO3
    have N4 := led_front N3
    have oP4 := off_front hO3 oP2
    have oI4 : OffA ((D, listOf pvs.toArray nD) :: ex2) I := fun q hq e => hO3 (I, it) (.tail _ (.head _)) q hq e.symm
    have oR4 : OffA ((D, listOf pvs.toArray nD) :: ex2) Rw := fun q hq e => hO3 (Rw, listOf rvs.toArray nr) (.tail _ (.tail _ (.tail _ (.head _)))) q hq e.symm
    clear N3 hO3 F1 N2
    repeat' (first | (k_unfold; (try dsimp only)) | (k_end; wrow_close) | ((fail_if_success (with_reducible show wpAny _ _ (PySem.call (Value.ref 319) _) _ _ _)); walk1; (try dsimp only)) | ((fail_if_success (with_reducible show wpAny _ _ (PySem.call (Value.ref 319) _) _ _ _)); dsimp only; (fail_if_success (with_reducible show wpAny _ _ (PySem.call (Value.ref 319) _) _ _ _)); walk1) | ((fail_if_success (with_reducible show wpAny _ _ (PySem.call (Value.ref 319) _) _ _ _)); leave1; walk_say "STEP leave1"; try dsimp only) | fail "no step")
    try dsimp only
    refine' pick_ct (news := (D, listOf pvs.toArray nD) :: (ex2 ++ ((I, it) :: (Cl, listOf cvs.toArray nc) :: (Rw, listOf rvs.toArray nr) :: (L + 1, oD) :: extras))) (cold := (D, listOf pvs.toArray nD) :: (ex2 ++ ((I, it) :: (Cl, listOf cvs.toArray nc) :: (Rw, listOf rvs.toArray nr) :: (L + 1, oD) :: extras))) (k := 1 + 3 * i) (o := oP) (cvs := cvs) (nc := nc) B ?F X ?N T rfl oP4 ?hC oP4 hPn ?hCl hCells (.head _) (by omega) (by rw [hPh.len]; decide) (by rw [hPh.len]; decide) ?hd ?hu ?_
    case F => k_asm
    case N => k_asm
    case hC => exact fun q hq => (N4 q (.tail _ hq)).1
    case hCl => exact .tail _ (List.mem_append_right _ (.tail _ (.head _)))
    case hd => ktr_room
    case hu => ktr_units
    intro i1 v1 o4 h4 tk4 hv1 hP4 F4 N5
    obtain ⟨T1, A1, Z1, avs, svs, k1, k2, k3, able, rfl, mT, mA, mZ, hK1, hs2, hsp⟩ := hPh.all _ (List.mem_of_getElem? hv1)
    clear N4 hv1 F3
    repeat' (first | (k_unfold; (try dsimp only)) | (k_end; wrow_close) | ((fail_if_success (with_reducible show wpAny _ _ (assign _ _ _) _ _ _)); walk1; (try dsimp only)) | ((fail_if_success (with_reducible show wpAny _ _ (assign _ _ _) _ _ _)); dsimp only; (fail_if_success (with_reducible show wpAny _ _ (assign _ _ _) _ _ _)); walk1) | ((fail_if_success (with_reducible show wpAny _ _ (assign _ _ _) _ _ _)); leave1; walk_say "STEP leave1"; try dsimp only) | fail "no step")
    try dsimp only
    refine kcp_assign (by exact rfl) ⟨_, (N5 _ (.tail _ (.tail _ (List.mem_append_left _ mT)))).1, rfl, _, rfl⟩ rfl rfl rfl F4.ns fun h5 tk5 hn5 hk5 => ?_
    obtain ⟨F5, N6⟩ := fr_after F4 N5 hn5 hk5
    change Fr h₀ L h5 _ at F5
    change News h₀ L h5 _ at N6
    clear F4 N5 hn5 hk5
    repeat' (first | (k_unfold; (try dsimp only)) | (k_end; wrow_close) | ((fail_if_success (with_reducible show wpAny _ _ (PySem.call (Value.ref 319) _) _ _ _)); walk1; (try dsimp only)) | ((fail_if_success (with_reducible show wpAny _ _ (PySem.call (Value.ref 319) _) _ _ _)); dsimp only; (fail_if_success (with_reducible show wpAny _ _ (PySem.call (Value.ref 319) _) _ _ _)); walk1) | ((fail_if_success (with_reducible show wpAny _ _ (PySem.call (Value.ref 319) _) _ _ _)); leave1; walk_say "STEP leave1"; try dsimp only) | fail "no step")
    try dsimp only
    have mZ2 : (Z1, listOf svs.toArray k3) ∈ (D, listOf pvs.toArray nD) :: (ex2 ++ ((I, it) :: (Cl, listOf cvs.toArray nc) :: (Rw, listOf rvs.toArray nr) :: (L + 1, oD) :: extras)) := .tail _ (List.mem_append_left _ mZ)
    have mC2 : (Cl, listOf cvs.toArray nc) ∈ (D, listOf pvs.toArray nD) :: (ex2 ++ ((I, it) :: (Cl, listOf cvs.toArray nc) :: (Rw, listOf rvs.toArray nr) :: (L + 1, oD) :: extras)) := .tail _ (List.mem_append_right _ (.tail _ (.head _)))
    refine' pick_ct (news := ((D, listOf pvs.toArray nD) :: (ex2 ++ ((I, it) :: (Cl, listOf cvs.toArray nc) :: (Rw, listOf rvs.toArray nr) :: (L + 1, oD) :: extras)))) (cold := ((D, listOf pvs.toArray nD) :: (ex2 ++ ((I, it) :: (Cl, listOf cvs.toArray nc) :: (Rw, listOf rvs.toArray nr) :: (L + 1, oD) :: extras)))) (k := 1 + 3 * i + 1) (o := o4) (cvs := cvs) (nc := nc) B ?F X ?N T rfl oP4 ?hC oP4 hP4 mC2 hCells mZ2 (by omega) (by rw [hs2]; decide) (by rw [hs2]; decide) ?hd ?hu ?_
    case F => k_asm
    case N => k_asm
    case hC => exact fun q hq => (N6 q (.tail _ hq)).1
    case hd => ktr_room
    case hu => ktr_units
    intro i2 v2 o6 h6 tk6 hv2 hP6 F6 N7
    obtain ⟨sp, t6, rfl, hsp1, hsp2⟩ := hsp _ _ hv2
    clear N6 F5
    repeat' (first | (k_unfold; (try dsimp only)) | (k_end; wrow_close) | ((fail_if_success (with_reducible show wpAny _ _ (PySem.call (Value.ref 319) _) _ _ _)); walk1; (try dsimp only)) | ((fail_if_success (with_reducible show wpAny _ _ (PySem.call (Value.ref 319) _) _ _ _)); dsimp only; (fail_if_success (with_reducible show wpAny _ _ (PySem.call (Value.ref 319) _) _ _ _)); walk1) | ((fail_if_success (with_reducible show wpAny _ _ (PySem.call (Value.ref 319) _) _ _ _)); leave1; walk_say "STEP leave1"; try dsimp only) | fail "no step")
    try dsimp only
    rename_i Wl hW kF kN lW
    have kN2 := led_swap kN
    have oW := off_new lW oP4
    clear kN
    refine' pick_ct (svs := [.int 1 _, .int 2 _, .int 1 _, .int 3 _, .int 1 _, .int 0 _]) (nsl := 0) (k := 1 + 3 * i + 1 + 1) (o := o6) (cvs := cvs) (nc := nc) B ?F X kN2 T rfl (oW _) (cold_tail kN2) (oW _) hP6 (.tail _ mC2) hCells (.head _) (by omega) (Nat.le_of_ble_eq_true rfl) (Nat.le_of_ble_eq_true rfl) ?hd ?hu ?_
    case F => k_asm
    case hd => ktr_room
    case hu => ktr_units
    intro i3 v3 o8 h8 tk8 hv3 hP8 F8 N8
    obtain ⟨c, t8, rfl, hc3⟩ := six_pick hv3
    clear kN2 kF oW hv3
    repeat' (first | (k_unfold; (try dsimp only)) | (k_end; wrow_close) | ((fail_if_success (with_reducible show wpAny _ _ (PySem.call (Value.builtin "list.append") [Value.ref _, _]) _ _ _)); walk1; (try dsimp only)) | ((fail_if_success (with_reducible show wpAny _ _ (PySem.call (Value.builtin "list.append") [Value.ref _, _]) _ _ _)); dsimp only; (fail_if_success (with_reducible show wpAny _ _ (PySem.call (Value.builtin "list.append") [Value.ref _, _]) _ _ _)); walk1) | ((fail_if_success (with_reducible show wpAny _ _ (PySem.call (Value.builtin "list.append") [Value.ref _, _]) _ _ _)); leave1; walk_say "STEP leave1"; try dsimp only) | fail "no step")
    try dsimp only
    rename_i T2 hT2 kF kN lT
    have hT2P : T2 ≠ Pn := Ne.symm (Nat.ne_of_lt lT.1)
    have hT2R : T2 ≠ Rw := led_ne kN (.head _) (.tail _ (.tail _ (.tail _ (.tail _ (List.mem_append_right _ (.tail _ (.tail _ (.head _)))))))) (cls_ne rfl)
    have hT2I : T2 ≠ I := led_ne kN (.head _) (.tail _ (.tail _ (.tail _ (.tail _ (List.mem_append_right _ (.head _)))))) (by rw [hit]; exact cls_ne rfl)
    have N9 := law_pickled kN
    clear kN
    refine l_append (B := Rw) (by k_asm) N9 .here (OffA.cons (Ne.symm hlR) (OffA.cons hIR (OffA.cons (Nat.ne_of_lt lR.2.1) (OffA.cons (Nat.ne_of_lt lR.2.2) (OffA.cons hT2R (OffA.app (fun q hq => oR4 q (.tail _ hq)) oXR)))))) (by omega) fun h10 F10 N10 => ?_
    clear N9
    repeat' (first | (k_unfold; (try dsimp only)) | (k_end; wrow_close) | (walk1; (try dsimp only)) | (dsimp only; walk1) | (leave1; walk_say "STEP leave1"; try dsimp only) | fail "no step")
    exact law_turn_end (by assumption) (by assumption) (fun q hq => hoff q hq) hRs hln (by omega) mA (hsp2 ▸ hK1) hc3 hsp1 hP8 hIP hIR hT2I hT2P hT2R oI4 oP4 oR4 hIX oXP oXR mC mD
  case done =>
    clear F2 N2 hr
    rintro m₁ nx h tk ⟨u, oQ, rvs, rows, nr, extras, rfl, mP, mR, mC, mD, mX, hRs, hln, hPn, oXP, oXR⟩ F1 N1
    change Fr h₀ L h _ at F1
    have N2 : News h₀ L h ((Pn, oQ) :: (Rw, listOf rvs.toArray nr) :: (Cl, listOf cvs.toArray nc) :: (L + 1, oD) :: extras) := fun q hq => N1 q (by
      simp only [List.mem_cons] at hq
      rcases hq with rfl | rfl | rfl | rfl | hq
      · exact mP
      · exact mR
      · exact mC
      · exact mD
      · exact mX q hq)
    have oN := OffA.cons (q := (Rw, listOf rvs.toArray nr)) hlR (OffA.cons (q := (Cl, listOf cvs.toArray nc)) (Ne.symm hne) (OffA.cons (q := (L + 1, oD)) hLP oXP))
    have hi10 : d.toNat ≤ 10 := by omega
    try dsimp only
    refine @law_tail2 w Q E { s with heap := h, toks := tk } h₀ L mg mb p loose mean u dp un gd ccd fa oQ oD Pn Cl Rw cvs rvs nc nr d.toNat rows extras _ ?hb B F1 X N2 hoD T hRs hPn hi10 hCells oN hd hu ret
    rfl
end
end
section
section
variable {w : World} {Q : Flow → Shared → Prop} {E : Value → Shared → Prop} {s : Shared} {h₀ : Heap} {L : Addr} {mg mb : PySem.Str → Option Value} {p : Program} {loose : List PySem.Str} {mean : ExcName → Option Value}
  {dp un : Nat} {gd : Option (List Code)} {ccd : Value} {fa : Addr} {Sl : Addr} {svs : List Value} {ns : List Int} {oc : Obj}
theorem law_ct {bd : List Stmt} (hb : bd = b360) (B : Below callerA h₀ [] h₀) (F : Fr h₀ L s.heap fun y => List.lookup y [(S "script", Value.ref Sl)].reverse) (X : (Mine.heap w.params).In h₀) (N : News h₀ L s.heap [(L + 1, oc)]) (hoc : oc.data = .cell none) (T : Top p loose mean mg mb h₀)
    (hS : h₀.IsList Sl svs.toArray) (hns : IntsAre svs ns) (hlen : ns.length ≤ 63) (hd : dp + 40 < recursionLimit) (hu : un + 320 < cLine)
    (hE : PassesOwn (model PySem.Challenge.rw_pb0257_01.row.prog w) (ktrTop dp un gd (S "law") s360 L fa ccd [(S "pen", L + 1)] []) (envX (S "law") s360 L fa ccd [(S "pen", L + 1)]) E)
    (ret : ∀ h' tk' m', Fr h₀ L h' m' → Q (.ret (.bool true)) { s with heap := h', toks := tk' }) :
    wpAny (model PySem.Challenge.rw_pb0257_01.row.prog w) (ktrTop dp un gd (S "law") s360 L fa ccd [(S "pen", L + 1)] []) (execs bd (envX (S "law") s360 L fa ccd [(S "pen", L + 1)])) Q E s := by
  subst hb
  revert X
  k_fill
  w_on
  intro X
  repeat' (first | (k_unfold; (try dsimp only)) | (k_end; wrow_close) | ((fail_if_success (with_reducible show wpAny _ _ (PySem.call (Value.ref 355) _) _ _ _)); (fail_if_success (with_reducible show wpAny _ _ (binaryOp Operator.Add (Value.ref _) (Value.ref _)) _ _ _)); walk1; (try dsimp only)) | ((fail_if_success (with_reducible show wpAny _ _ (PySem.call (Value.ref 355) _) _ _ _)); (fail_if_success (with_reducible show wpAny _ _ (binaryOp Operator.Add (Value.ref _) (Value.ref _)) _ _ _)); dsimp only; (fail_if_success (with_reducible show wpAny _ _ (PySem.call (Value.ref 355) _) _ _ _)); (fail_if_success (with_reducible show wpAny _ _ (binaryOp Operator.Add (Value.ref _) (Value.ref _)) _ _ _)); walk1) | ((fail_if_success (with_reducible show wpAny _ _ (PySem.call (Value.ref 355) _) _ _ _)); (fail_if_success (with_reducible show wpAny _ _ (binaryOp Operator.Add (Value.ref _) (Value.ref _)) _ _ _)); leave1; walk_say "STEP leave1"; try dsimp only) | fail "no step")
  try dsimp only
  refine' right_ct (nr := 0) (nk := 0) (rvs := [.ref _, .ref _]) (kvs := [.str _ _, .str _ _]) (rows := [(.sonsier, 1), (.snosier, 2)]) (ks := [.size, .nsize]) (cold := _) (news := _) B ?F X ?N T rfl (fun q hq => (News.at_led ?N hq)) ?hR ?hRs ?hK ?hKs ?hd ?hu ?_
  case F => k_asm
  case N => k_asm
  case hR => k_mem
  case hRs => exact (RowsAre.cons (sp := .sonsier) (c := 1) (by k_mem) (by k_mem) (KeysAre.cons (k := .size) rfl (Nat.le_of_ble_eq_true rfl) KeysAre.nil) rfl (by decide) nofun (Nat.le_of_ble_eq_true rfl) (RowsAre.cons (sp := .snosier) (c := 2) (by k_mem) (by k_mem) (KeysAre.cons (k := .nsize) rfl (Nat.le_of_ble_eq_true rfl) KeysAre.nil) rfl (by decide) nofun (Nat.le_of_ble_eq_true rfl) RowsAre.nil))
  case hK => k_mem
  case hKs => exact (KeysAre.cons (k := .size) rfl (Nat.le_of_ble_eq_true rfl) (KeysAre.cons (k := .nsize) rfl (Nat.le_of_ble_eq_true rfl) KeysAre.nil))
  case hd => ktr_room
  case hu => ktr_units
  intro hA tkA FA NA
  repeat' (first | (k_unfold; (try dsimp only)) | (k_end; wrow_close) | ((fail_if_success (with_reducible show wpAny _ _ (subscriptTail _ _ (Value.ref _) _) _ _ _)); walk1; (try dsimp only)) | ((fail_if_success (with_reducible show wpAny _ _ (subscriptTail _ _ (Value.ref _) _) _ _ _)); dsimp only; (fail_if_success (with_reducible show wpAny _ _ (subscriptTail _ _ (Value.ref _) _) _ _ _)); walk1) | ((fail_if_success (with_reducible show wpAny _ _ (subscriptTail _ _ (Value.ref _) _) _ _ _)); leave1; walk_say "STEP leave1"; try dsimp only) | fail "no step")
  try dsimp only
  refine l_rev (by k_asm) (by k_asm) (by k_mem) (Nat.le_of_ble_eq_true rfl) fun DR hR1 FR1 NR1 lR => ?_
  clear lR
  repeat' (first | (k_unfold; (try dsimp only)) | (k_end; wrow_close) | ((fail_if_success (with_reducible show wpAny _ _ (PySem.call (Value.ref 355) _) _ _ _)); (fail_if_success (with_reducible show wpAny _ _ (binaryOp Operator.Add (Value.ref _) (Value.ref _)) _ _ _)); walk1; (try dsimp only)) | ((fail_if_success (with_reducible show wpAny _ _ (PySem.call (Value.ref 355) _) _ _ _)); (fail_if_success (with_reducible show wpAny _ _ (binaryOp Operator.Add (Value.ref _) (Value.ref _)) _ _ _)); dsimp only; (fail_if_success (with_reducible show wpAny _ _ (PySem.call (Value.ref 355) _) _ _ _)); (fail_if_success (with_reducible show wpAny _ _ (binaryOp Operator.Add (Value.ref _) (Value.ref _)) _ _ _)); walk1) | ((fail_if_success (with_reducible show wpAny _ _ (PySem.call (Value.ref 355) _) _ _ _)); (fail_if_success (with_reducible show wpAny _ _ (binaryOp Operator.Add (Value.ref _) (Value.ref _)) _ _ _)); leave1; walk_say "STEP leave1"; try dsimp only) | fail "no step")
  try dsimp only
  refine' right_ct (nr := 0) (nk := 0) (rvs := [.ref _, .ref _]) (kvs := [.str _ _, .str _ _]) (rows := [(.snosier, 2), (.sonsier, 1)]) (ks := [.size, .nsize]) (cold := _) (news := _) B ?F X ?N T rfl (fun q hq => (News.at_led ?N hq)) ?hR ?hRs ?hK ?hKs ?hd ?hu ?_
  case F => k_asm
  case N => k_asm
  case hR => k_mem
  case hRs => exact (RowsAre.cons (sp := .snosier) (c := 2) (by k_mem) (by k_mem) (KeysAre.cons (k := .nsize) rfl (Nat.le_of_ble_eq_true rfl) KeysAre.nil) rfl (by decide) nofun (Nat.le_of_ble_eq_true rfl) (RowsAre.cons (sp := .sonsier) (c := 1) (by k_mem) (by k_mem) (KeysAre.cons (k := .size) rfl (Nat.le_of_ble_eq_true rfl) KeysAre.nil) rfl (by decide) nofun (Nat.le_of_ble_eq_true rfl) RowsAre.nil))
  case hK => k_mem
  case hKs => exact (KeysAre.cons (k := .size) rfl (Nat.le_of_ble_eq_true rfl) (KeysAre.cons (k := .nsize) rfl (Nat.le_of_ble_eq_true rfl) KeysAre.nil))
  case hd => ktr_room
  case hu => ktr_units
  intro hB tkB FB NB
  repeat' (first | (k_unfold; (try dsimp only)) | (k_end; wrow_close) | ((fail_if_success (with_reducible show wpAny _ _ (subscriptTail _ _ (Value.ref _) _) _ _ _)); walk1; (try dsimp only)) | ((fail_if_success (with_reducible show wpAny _ _ (subscriptTail _ _ (Value.ref _) _) _ _ _)); dsimp only; (fail_if_success (with_reducible show wpAny _ _ (subscriptTail _ _ (Value.ref _) _) _ _ _)); walk1) | ((fail_if_success (with_reducible show wpAny _ _ (subscriptTail _ _ (Value.ref _) _) _ _ _)); leave1; walk_say "STEP leave1"; try dsimp only) | fail "no step")
  try dsimp only
  refine l_slice (by k_asm) (by k_asm) (News.isList (by k_asm) (by k_mem)) .none (.int _ _) (slicePick_upto' _ 1) (Nat.le_of_ble_eq_true rfl) fun DS1 hS1 FS1 NS1 lS => ?_
  repeat' (first | (k_unfold; (try dsimp only)) | (k_end; wrow_close) | ((fail_if_success (with_reducible show wpAny _ _ (subscriptTail _ _ (Value.ref _) _) _ _ _)); walk1; (try dsimp only)) | ((fail_if_success (with_reducible show wpAny _ _ (subscriptTail _ _ (Value.ref _) _) _ _ _)); dsimp only; (fail_if_success (with_reducible show wpAny _ _ (subscriptTail _ _ (Value.ref _) _) _ _ _)); walk1) | ((fail_if_success (with_reducible show wpAny _ _ (subscriptTail _ _ (Value.ref _) _) _ _ _)); leave1; walk_say "STEP leave1"; try dsimp only) | fail "no step")
  try dsimp only
  refine l_slice (by k_asm) (by k_asm) (News.isList (by k_asm) (by k_mem)) .none (.int _ _) (slicePick_upto' _ 1) (Nat.le_of_ble_eq_true rfl) fun DS2 hS2 FS2 NS2 lS => ?_
  repeat' (first | (k_unfold; (try dsimp only)) | (k_end; wrow_close) | ((fail_if_success (with_reducible show wpAny _ _ (PySem.call (Value.ref 355) _) _ _ _)); (fail_if_success (with_reducible show wpAny _ _ (binaryOp Operator.Add (Value.ref _) (Value.ref _)) _ _ _)); walk1; (try dsimp only)) | ((fail_if_success (with_reducible show wpAny _ _ (PySem.call (Value.ref 355) _) _ _ _)); (fail_if_success (with_reducible show wpAny _ _ (binaryOp Operator.Add (Value.ref _) (Value.ref _)) _ _ _)); dsimp only; (fail_if_success (with_reducible show wpAny _ _ (PySem.call (Value.ref 355) _) _ _ _)); (fail_if_success (with_reducible show wpAny _ _ (binaryOp Operator.Add (Value.ref _) (Value.ref _)) _ _ _)); walk1) | ((fail_if_success (with_reducible show wpAny _ _ (PySem.call (Value.ref 355) _) _ _ _)); (fail_if_success (with_reducible show wpAny _ _ (binaryOp Operator.Add (Value.ref _) (Value.ref _)) _ _ _)); leave1; walk_say "STEP leave1"; try dsimp only) | fail "no step")
  try dsimp only
  refine l_add (by k_asm) (by k_asm) (by k_mem) (by k_mem) (Nat.le_of_ble_eq_true rfl) fun DC hC1 FC1 NC1 lC => ?_
  clear lC
  repeat' (first | (k_unfold; (try dsimp only)) | (k_end; wrow_close) | ((fail_if_success (with_reducible show wpAny _ _ (PySem.call (Value.ref 355) _) _ _ _)); (fail_if_success (with_reducible show wpAny _ _ (binaryOp Operator.Add (Value.ref _) (Value.ref _)) _ _ _)); walk1; (try dsimp only)) | ((fail_if_success (with_reducible show wpAny _ _ (PySem.call (Value.ref 355) _) _ _ _)); (fail_if_success (with_reducible show wpAny _ _ (binaryOp Operator.Add (Value.ref _) (Value.ref _)) _ _ _)); dsimp only; (fail_if_success (with_reducible show wpAny _ _ (PySem.call (Value.ref 355) _) _ _ _)); (fail_if_success (with_reducible show wpAny _ _ (binaryOp Operator.Add (Value.ref _) (Value.ref _)) _ _ _)); walk1) | ((fail_if_success (with_reducible show wpAny _ _ (PySem.call (Value.ref 355) _) _ _ _)); (fail_if_success (with_reducible show wpAny _ _ (binaryOp Operator.Add (Value.ref _) (Value.ref _)) _ _ _)); leave1; walk_say "STEP leave1"; try dsimp only) | fail "no step")
  try dsimp only
  refine' right_ct (nr := 0) (nk := 0) (rvs := [.ref _, .ref _]) (kvs := [.str _ _, .str _ _]) (rows := [(.sonsier, 1), (.sonsier, 1)]) (ks := [.size, .nsize]) (cold := _) (news := _) B ?F X ?N T rfl (fun q hq => (News.at_led ?N hq)) ?hR ?hRs ?hK ?hKs ?hd ?hu ?_
  case F => k_asm
  case N => k_asm
  case hR => k_mem
  case hRs => exact (RowsAre.cons (sp := .sonsier) (c := 1) (by k_mem) (by k_mem) (KeysAre.cons (k := .size) rfl (Nat.le_of_ble_eq_true rfl) KeysAre.nil) rfl (by decide) nofun (Nat.le_of_ble_eq_true rfl) (RowsAre.cons (sp := .sonsier) (c := 1) (by k_mem) (by k_mem) (KeysAre.cons (k := .size) rfl (Nat.le_of_ble_eq_true rfl) KeysAre.nil) rfl (by decide) nofun (Nat.le_of_ble_eq_true rfl) RowsAre.nil))
  case hK => k_mem
  case hKs => exact (KeysAre.cons (k := .size) rfl (Nat.le_of_ble_eq_true rfl) (KeysAre.cons (k := .nsize) rfl (Nat.le_of_ble_eq_true rfl) KeysAre.nil))
  case hd => ktr_room
  case hu => ktr_units
  intro hC tkC FC NC
  repeat' (first | (k_unfold; (try dsimp only)) | (k_end; wrow_close) | ((fail_if_success (with_reducible show wpAny _ _ (PySem.call (Value.ref 355) _) _ _ _)); (fail_if_success (with_reducible show wpAny _ _ (binaryOp Operator.Add (Value.ref _) (Value.ref _)) _ _ _)); walk1; (try dsimp only)) | ((fail_if_success (with_reducible show wpAny _ _ (PySem.call (Value.ref 355) _) _ _ _)); (fail_if_success (with_reducible show wpAny _ _ (binaryOp Operator.Add (Value.ref _) (Value.ref _)) _ _ _)); dsimp only; (fail_if_success (with_reducible show wpAny _ _ (PySem.call (Value.ref 355) _) _ _ _)); (fail_if_success (with_reducible show wpAny _ _ (binaryOp Operator.Add (Value.ref _) (Value.ref _)) _ _ _)); walk1) | ((fail_if_success (with_reducible show wpAny _ _ (PySem.call (Value.ref 355) _) _ _ _)); (fail_if_success (with_reducible show wpAny _ _ (binaryOp Operator.Add (Value.ref _) (Value.ref _)) _ _ _)); leave1; walk_say "STEP leave1"; try dsimp only) | fail "no step")
  try dsimp only
  refine' right_ct (nr := 0) (nk := 0) (rvs := [.ref _]) (kvs := [.str _ _, .str _ _]) (rows := [(.ssier, 0)]) (ks := [.size, .nsize]) (cold := _) (news := _) B ?F X ?N T rfl (fun q hq => (News.at_led ?N hq)) ?hR ?hRs ?hK ?hKs ?hd ?hu ?_
  case F => k_asm
  case N => k_asm
  case hR => k_mem
  case hRs => exact (RowsAre.cons (sp := .ssier) (c := 0) (by k_mem) (by k_mem) (KeysAre.cons (k := .size) rfl (Nat.le_of_ble_eq_true rfl) KeysAre.nil) rfl (by decide) nofun (Nat.le_of_ble_eq_true rfl) RowsAre.nil)
  case hK => k_mem
  case hKs => exact (KeysAre.cons (k := .size) rfl (Nat.le_of_ble_eq_true rfl) (KeysAre.cons (k := .nsize) rfl (Nat.le_of_ble_eq_true rfl) KeysAre.nil))
  case hd => ktr_room
  case hu => ktr_units
  intro hD tkD FD ND
  repeat' (first | (k_unfold; (try dsimp only)) | (k_end; wrow_close) | ((fail_if_success (with_reducible show wpAny _ _ (PySem.call (Value.ref 355) _) _ _ _)); (fail_if_success (with_reducible show wpAny _ _ (binaryOp Operator.Add (Value.ref _) (Value.ref _)) _ _ _)); walk1; (try dsimp only)) | ((fail_if_success (with_reducible show wpAny _ _ (PySem.call (Value.ref 355) _) _ _ _)); (fail_if_success (with_reducible show wpAny _ _ (binaryOp Operator.Add (Value.ref _) (Value.ref _)) _ _ _)); dsimp only; (fail_if_success (with_reducible show wpAny _ _ (PySem.call (Value.ref 355) _) _ _ _)); (fail_if_success (with_reducible show wpAny _ _ (binaryOp Operator.Add (Value.ref _) (Value.ref _)) _ _ _)); walk1) | ((fail_if_success (with_reducible show wpAny _ _ (PySem.call (Value.ref 355) _) _ _ _)); (fail_if_success (with_reducible show wpAny _ _ (binaryOp Operator.Add (Value.ref _) (Value.ref _)) _ _ _)); leave1; walk_say "STEP leave1"; try dsimp only) | fail "no step")
  try dsimp only
  refine' right_ct (nr := 0) (nk := 0) (rvs := [.ref _]) (kvs := [.str _ _, .str _ _]) (rows := [(.sov, 1)]) (ks := [.fault, .over]) (cold := _) (news := _) B ?F X ?N T rfl (fun q hq => (News.at_led ?N hq)) ?hR ?hRs ?hK ?hKs ?hd ?hu ?_
  case F => k_asm
  case N => k_asm
  case hR => k_mem
  case hRs => exact (RowsAre.cons (sp := .sov) (c := 1) (by k_mem) (by k_mem) (KeysAre.cons (k := .over) rfl (Nat.le_of_ble_eq_true rfl) (KeysAre.cons (k := .fault) rfl (Nat.le_of_ble_eq_true rfl) KeysAre.nil)) rfl (by decide) nofun (Nat.le_of_ble_eq_true rfl) RowsAre.nil)
  case hK => k_mem
  case hKs => exact (KeysAre.cons (k := .fault) rfl (Nat.le_of_ble_eq_true rfl) (KeysAre.cons (k := .over) rfl (Nat.le_of_ble_eq_true rfl) KeysAre.nil))
  case hd => ktr_room
  case hu => ktr_units
  intro hE1 tkE1 FE1 NE1
  repeat' (first | (k_unfold; (try dsimp only)) | (k_end; wrow_close) | ((fail_if_success (with_reducible show wpAny _ _ (PySem.call (Value.ref 355) _) _ _ _)); (fail_if_success (with_reducible show wpAny _ _ (binaryOp Operator.Add (Value.ref _) (Value.ref _)) _ _ _)); walk1; (try dsimp only)) | ((fail_if_success (with_reducible show wpAny _ _ (PySem.call (Value.ref 355) _) _ _ _)); (fail_if_success (with_reducible show wpAny _ _ (binaryOp Operator.Add (Value.ref _) (Value.ref _)) _ _ _)); dsimp only; (fail_if_success (with_reducible show wpAny _ _ (PySem.call (Value.ref 355) _) _ _ _)); (fail_if_success (with_reducible show wpAny _ _ (binaryOp Operator.Add (Value.ref _) (Value.ref _)) _ _ _)); walk1) | ((fail_if_success (with_reducible show wpAny _ _ (PySem.call (Value.ref 355) _) _ _ _)); (fail_if_success (with_reducible show wpAny _ _ (binaryOp Operator.Add (Value.ref _) (Value.ref _)) _ _ _)); leave1; walk_say "STEP leave1"; try dsimp only) | fail "no step")
  try dsimp only
  refine' right_ct (nr := 0) (nk := 0) (rvs := [.ref _, .ref _]) (kvs := [.str _ _, .str _ _, .str _ _]) (rows := [(.sonov, 3), (.sov, 1)]) (ks := [.over, .nover, .fault]) (cold := _) (news := _) B ?F X ?N T rfl (fun q hq => (News.at_led ?N hq)) ?hR ?hRs ?hK ?hKs ?hd ?hu ?_
  case F => k_asm
  case N => k_asm
  case hR => k_mem
  case hRs => exact (RowsAre.cons (sp := .sonov) (c := 3) (by k_mem) (by k_mem) (KeysAre.cons (k := .over) rfl (Nat.le_of_ble_eq_true rfl) (KeysAre.cons (k := .fault) rfl (Nat.le_of_ble_eq_true rfl) KeysAre.nil)) rfl (by decide) nofun (Nat.le_of_ble_eq_true rfl) (RowsAre.cons (sp := .sov) (c := 1) (by k_mem) (by k_mem) (KeysAre.cons (k := .over) rfl (Nat.le_of_ble_eq_true rfl) (KeysAre.cons (k := .fault) rfl (Nat.le_of_ble_eq_true rfl) KeysAre.nil)) rfl (by decide) nofun (Nat.le_of_ble_eq_true rfl) RowsAre.nil))
  case hK => k_mem
  case hKs => exact (KeysAre.cons (k := .over) rfl (Nat.le_of_ble_eq_true rfl) (KeysAre.cons (k := .nover) rfl (Nat.le_of_ble_eq_true rfl) (KeysAre.cons (k := .fault) rfl (Nat.le_of_ble_eq_true rfl) KeysAre.nil)))
  case hd => ktr_room
  case hu => ktr_units
  intro hG tkG FG NG
  repeat' (first | (k_unfold; (try dsimp only)) | (k_end; wrow_close) | ((fail_if_success (with_reducible show wpAny _ _ (PySem.call (Value.ref 305) _) _ _ _)); walk1; (try dsimp only)) | ((fail_if_success (with_reducible show wpAny _ _ (PySem.call (Value.ref 305) _) _ _ _)); dsimp only; (fail_if_success (with_reducible show wpAny _ _ (PySem.call (Value.ref 305) _) _ _ _)); walk1) | ((fail_if_success (with_reducible show wpAny _ _ (PySem.call (Value.ref 305) _) _ _ _)); leave1; walk_say "STEP leave1"; try dsimp only) | fail "no step")
  try dsimp only
  have NP : News h₀ L hG [(L + 1, oc)] := fun q hq => NG q (by rw [List.mem_singleton.mp hq]; k_mem)
  refine' pen_ct (news := [(L + 1, oc)]) B ?F X NP T rfl hS hns hlen ?hd ?hu ?_
  case F => k_asm
  case hd => ktr_room
  case hu => ktr_units
  intro Pn Cl oP cvs nc extras hP1 tkP FP1 NP1 hPen hCells hOff hne
  have NP2 : News h₀ L hP1 [(Pn, oP), (Cl, listOf cvs.toArray nc), (L + 1, oc)] := fun q hq => NP1 q (by
    simp only [List.mem_cons, List.mem_append] at hq ⊢
    rcases hq with hq | hq | hq | hq
    · exact .inl hq
    · exact .inr (.inl hq)
    · exact .inr (.inr (.inr (.inl hq)))
    · cases hq)
  have hLP : L + 1 ≠ Pn := hOff _ (.head _) _ (.head _)
  have hLC : L + 1 ≠ Cl := hOff _ (.head _) _ (.tail _ (.head _))
  clear NP NP1 hOff
  refine storeX_C FP1 NP2 rfl (.tail (Ne.symm hLP) (.tail (Ne.symm hLC) (.head fun _ h => nomatch h))) hoc fun hQ1 oD FQ1 NQ1 hoD => ?_
  clear NP2 FP1
  try dsimp only
  refine @law_tail w Q E { s with heap := hQ1, toks := tkP } h₀ L _ mg mb p loose mean dp un gd ccd fa oP oD Pn Cl cvs nc _ ?hb B FQ1 X NQ1 hoD T hPen hCells hne hLP hLC hd hu hE ret
  rfl
end
end
section
theorem law_room : (callerA.deeper (envX (S "law") s360 0 0 .none [])).depth + 40 < recursionLimit := by decide +kernel
theorem law_units : (callerA.deeper (envX (S "law") s360 0 0 .none [])).units + 320 < cLine := by decide +kernel
theorem lk_one (x : PySem.Str) (v : Value) : (fun y => if y = x then some v else none) = (fun y => List.lookup y [(x, v)].reverse) := by
  funext y
  show _ = (match y == x with | true => some v | false => none)
  by_cases h : y = x
  · rw [if_pos h, beq_iff_eq.mpr h]
  · rw [if_neg h, beq_eq_false_iff_ne.mpr h]
theorem law_nodup : ((cellsFrom 0 s360.names []).map (·.1)).Nodup := by decide
theorem law0 (pos : Pos) : WalkO vw [Str.ofString "LedgerError", Str.ofString "Token"] (XL vw []) hk.says lrow ⟨Str.ofString "law", p360, b360, s360, pos⟩ [] fun f vs => PySem.call f vs := by
  w_on
  k_fill
  intro w s₀ s₁ mg mb G Y fa o pm cd doc dV kV ho hd hcd hD hmg hg args vals as hpre hlay hrd hwl hlo
  have KX := kIn_of Y
  refine Ground.open G ?_
  intro T B D TE TW
  try (refine guard_noD D (by decide +kernel) ?_; clear D)
  obtain ⟨_, _, he, B0⟩ := based_of_top T rfl hmg ho hd
  have he' : cd = _ := he
  subst he'
  clear he
  clear hmg
  wrow_args hpre hlay hrd hwl hlo
  all_goals (
    refine enter_call ?_
    w_top on
    try refine codeAny_mono ?_ (fun _ _ g => GoodW.toG g)
    have K0 := below_caller (Top.heap T)
    have he := Dflts.none hD rfl
    subst he
    have he := Dflts.noKw hD
    subst he
    refine call_cellsN (by decide) ho (fd_plain hd) (Top.nolimit T) hcd rfl (kinds_of (by kinds_ok)) law_nodup fun h₁ tk₁ cells F N0 X0 => ?_
    cells_open X0)
  rename_i oc hoc
  clear hd hcd hD
  rename IntsAre _ _ => hI
  rename Heap.IsList _ _ _ => hL
  rename ¬ _ => hlen
  have hlen' := Nat.le_of_not_lt (fun h => hlen (Int.ofNat_lt.mpr h))
  have F2 : Fr s₁.heap s₁.heap.objs.size h₁ (fun y => if y = S "script" then some _ else none) := F
  rw [lk_one] at F2
  clear F
  refine @law_ct w _ _ ⟨h₁, s₁.gens, s₁.drawn, tk₁, s₁.os⟩ s₁.heap s₁.heap.objs.size mg mb vw _ _ (callerA.deeper (envX (S "law") s360 0 0 .none [])).depth (callerA.deeper (envX (S "law") s360 0 0 .none [])).units callerA.guards _ fa _ _ _ oc _ rfl K0 F2 KX N0 hoc T hL hI hlen' law_room law_units ?hE ?ret
  case hE => passes_own
  case ret =>
    intro h' tk' m' F'
    exact ⟨.inl ⟨.bool true, .bool true, [], rfl, fun _ => rfl, .bool true, by first | kernel_rfl | with_unfolding_all rfl | decide +revert | (simp [RowW.claim]; trace_state; done), fun _ => ⟨.nil, fun _ h => nomatch h⟩⟩, F'.keep, rfl, hg⟩
noncomputable def fnPos : Stmt → Pos
  | .FunctionDef _ _ _ _ _ _ _ _ _ p => p
  | _ => default
theorem law_all : PySem.Challenge.rw_pb0257_01.Holds := hd promised said (fnPos (stm 24)) (by rfl) (law0 _)
end
end Mine
theorem PySem.Challenge.cw_pb0257_01_holds : PySem.Challenge.rw_pb0257_01.Holds :=
  Mine.law_all
