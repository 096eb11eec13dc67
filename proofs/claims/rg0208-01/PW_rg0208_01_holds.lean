import PyProof.Rows.All
import Wide.All
import OpenK.AllK
import Wide.FinOn
import Lean
import PySem.Challenge.RW_rg0208_01
set_option Elab.async false
local macro_rules | `(tactic| walk_at $s:str) => `(tactic| k_extra $s)
section
open PySem PySem.W PyProof.Rows
namespace Mine
set_option maxRecDepth 100000
/-- a statement of a body, by its place -/
def stIn (l : List Stmt) : Nat → Stmt
  | 0 => match l with | s :: _ => s | [] => .Pass default
  | k + 1 => match l with | _ :: r => stIn r k | [] => .Pass default
def bodyOf : Stmt → List Stmt
  | .ClassDef _ _ _ b _ _ _ _ _ _ _ => b
  | _ => []
def fob (st : Stmt) (q modu : PySem.Str) (t : Tok) (c : Addr) : Obj := match st with
  | .FunctionDef n a b _ _ _ sc _ _ _ => { cls := .type "function", data := .func { name := n, qualname := q, params := a, body := .stmts b, scope := sc, globals := 3, closure := [], defaults := .none, kwdefaults := .none, pyModule := .str modu t, code := .ref c } }
  | _ => { cls := .none, data := .plain }
@[reducible] noncomputable def s0 : Stmt := (⟨_, by (conv => rhs; whnf); try rfl⟩ : { s : Stmt // s = stIn PySem.Challenge.pw_rg0208_01.main.body 0 }).1
@[reducible] noncomputable def s2 : Stmt := (⟨_, by (conv => rhs; whnf); try rfl⟩ : { s : Stmt // s = stIn PySem.Challenge.pw_rg0208_01.main.body 2 }).1
@[reducible] noncomputable def s3 : Stmt := (⟨_, by (conv => rhs; whnf); try rfl⟩ : { s : Stmt // s = stIn PySem.Challenge.pw_rg0208_01.main.body 3 }).1
@[reducible] noncomputable def s5 : Stmt := (⟨_, by (conv => rhs; whnf); try rfl⟩ : { s : Stmt // s = stIn PySem.Challenge.pw_rg0208_01.main.body 5 }).1
@[reducible] noncomputable def s6 : Stmt := (⟨_, by (conv => rhs; whnf); try rfl⟩ : { s : Stmt // s = stIn PySem.Challenge.pw_rg0208_01.main.body 6 }).1
@[reducible] noncomputable def s7 : Stmt := (⟨_, by (conv => rhs; whnf); try rfl⟩ : { s : Stmt // s = stIn PySem.Challenge.pw_rg0208_01.main.body 7 }).1
@[reducible] noncomputable def s8 : Stmt := (⟨_, by (conv => rhs; whnf); try rfl⟩ : { s : Stmt // s = stIn PySem.Challenge.pw_rg0208_01.main.body 8 }).1
@[reducible] noncomputable def s10 : Stmt := (⟨_, by (conv => rhs; whnf); try rfl⟩ : { s : Stmt // s = stIn PySem.Challenge.pw_rg0208_01.main.body 10 }).1
@[reducible] noncomputable def s11 : Stmt := (⟨_, by (conv => rhs; whnf); try rfl⟩ : { s : Stmt // s = stIn PySem.Challenge.pw_rg0208_01.main.body 11 }).1
@[reducible] noncomputable def s12 : Stmt := (⟨_, by (conv => rhs; whnf); try rfl⟩ : { s : Stmt // s = stIn PySem.Challenge.pw_rg0208_01.main.body 12 }).1
@[reducible] noncomputable def s13 : Stmt := (⟨_, by (conv => rhs; whnf); try rfl⟩ : { s : Stmt // s = stIn PySem.Challenge.pw_rg0208_01.main.body 13 }).1
@[reducible] noncomputable def s14 : Stmt := (⟨_, by (conv => rhs; whnf); try rfl⟩ : { s : Stmt // s = stIn PySem.Challenge.pw_rg0208_01.main.body 14 }).1
@[reducible] noncomputable def s15 : Stmt := (⟨_, by (conv => rhs; whnf); try rfl⟩ : { s : Stmt // s = stIn PySem.Challenge.pw_rg0208_01.main.body 15 }).1
@[reducible] noncomputable def s16 : Stmt := (⟨_, by (conv => rhs; whnf); try rfl⟩ : { s : Stmt // s = stIn PySem.Challenge.pw_rg0208_01.main.body 16 }).1
@[reducible] noncomputable def s17 : Stmt := (⟨_, by (conv => rhs; whnf); try rfl⟩ : { s : Stmt // s = stIn PySem.Challenge.pw_rg0208_01.main.body 17 }).1
@[reducible] noncomputable def s18 : Stmt := (⟨_, by (conv => rhs; whnf); try rfl⟩ : { s : Stmt // s = stIn PySem.Challenge.pw_rg0208_01.main.body 18 }).1
@[reducible] noncomputable def s19 : Stmt := (⟨_, by (conv => rhs; whnf); try rfl⟩ : { s : Stmt // s = stIn PySem.Challenge.pw_rg0208_01.main.body 19 }).1
@[reducible] noncomputable def s20 : Stmt := (⟨_, by (conv => rhs; whnf); try rfl⟩ : { s : Stmt // s = stIn PySem.Challenge.pw_rg0208_01.main.body 20 }).1
@[reducible] noncomputable def s21 : Stmt := (⟨_, by (conv => rhs; whnf); try rfl⟩ : { s : Stmt // s = stIn PySem.Challenge.pw_rg0208_01.main.body 21 }).1
@[reducible] noncomputable def s22 : Stmt := (⟨_, by (conv => rhs; whnf); try rfl⟩ : { s : Stmt // s = stIn PySem.Challenge.pw_rg0208_01.main.body 22 }).1
@[reducible] noncomputable def s23 : Stmt := (⟨_, by (conv => rhs; whnf); try rfl⟩ : { s : Stmt // s = stIn PySem.Challenge.pw_rg0208_01.main.body 23 }).1
@[reducible] noncomputable def s25 : Stmt := (⟨_, by (conv => rhs; whnf); try rfl⟩ : { s : Stmt // s = stIn PySem.Challenge.pw_rg0208_01.main.body 25 }).1
@[reducible] noncomputable def s26 : Stmt := (⟨_, by (conv => rhs; whnf); try rfl⟩ : { s : Stmt // s = stIn PySem.Challenge.pw_rg0208_01.main.body 26 }).1
@[reducible] noncomputable def s27 : Stmt := (⟨_, by (conv => rhs; whnf); try rfl⟩ : { s : Stmt // s = stIn PySem.Challenge.pw_rg0208_01.main.body 27 }).1
@[reducible] noncomputable def s28 : Stmt := (⟨_, by (conv => rhs; whnf); try rfl⟩ : { s : Stmt // s = stIn PySem.Challenge.pw_rg0208_01.main.body 28 }).1
@[reducible] noncomputable def s29 : Stmt := (⟨_, by (conv => rhs; whnf); try rfl⟩ : { s : Stmt // s = stIn PySem.Challenge.pw_rg0208_01.main.body 29 }).1
@[reducible] noncomputable def s30 : Stmt := (⟨_, by (conv => rhs; whnf); try rfl⟩ : { s : Stmt // s = stIn PySem.Challenge.pw_rg0208_01.main.body 30 }).1
@[reducible] noncomputable def m114 : Stmt := (⟨_, by (conv => rhs; whnf); try rfl⟩ : { s : Stmt // s = stIn (bodyOf s13) 0 }).1
@[reducible] noncomputable def m135 : Stmt := (⟨_, by (conv => rhs; whnf); try rfl⟩ : { s : Stmt // s = stIn (bodyOf s13) 3 }).1
@[reducible] noncomputable def m142 : Stmt := (⟨_, by (conv => rhs; whnf); try rfl⟩ : { s : Stmt // s = stIn (bodyOf s13) 4 }).1
@[reducible] noncomputable def m163 : Stmt := (⟨_, by (conv => rhs; whnf); try rfl⟩ : { s : Stmt // s = stIn (bodyOf s13) 7 }).1
@[reducible] noncomputable def sc : Scope := (⟨_, by (conv => rhs; whnf); try rfl⟩ : { s : Scope // s = PySem.Challenge.pw_rg0208_01.main.scope }).1
noncomputable def vw : Program := { PySem.Challenge.pw_rg0208_01 with main := { PySem.Challenge.pw_rg0208_01.main with body := [s0, s2, s3, s5, s6, s7, s8, s10, s11, s12, s13, s14, s15, s16, s17, s18, s19, s20, s21, s22, s23, s25, s26, s27, s28, s29, s30], scope := sc } }
@[reducible] noncomputable def fo85 : Obj := (⟨_, by (conv => rhs; whnf); try rfl⟩ : { o : Obj // o = fob s7 (Str.ofString "figures_of") (Str.ofString "minismt.ratios") 269 84 }).1
@[reducible] noncomputable def fo92 : Obj := (⟨_, by (conv => rhs; whnf); try rfl⟩ : { o : Obj // o = fob s8 (Str.ofString "number_in") (Str.ofString "minismt.ratios") 269 91 }).1
@[reducible] noncomputable def fo100 : Obj := (⟨_, by (conv => rhs; whnf); try rfl⟩ : { o : Obj // o = fob s12 (Str.ofString "is_tidy") (Str.ofString "minismt.proof") 295 99 }).1
@[reducible] noncomputable def fo114 : Obj := (⟨_, by (conv => rhs; whnf); try rfl⟩ : { o : Obj // o = fob m114 (Str.ofString "Steps.__init__") (Str.ofString "minismt.proof") 295 113 }).1
@[reducible] noncomputable def fo135 : Obj := (⟨_, by (conv => rhs; whnf); try rfl⟩ : { o : Obj // o = fob m135 (Str.ofString "Steps.var_count") (Str.ofString "minismt.proof") 295 134 }).1
@[reducible] noncomputable def fo142 : Obj := (⟨_, by (conv => rhs; whnf); try rfl⟩ : { o : Obj // o = fob m142 (Str.ofString "Steps.size") (Str.ofString "minismt.proof") 295 141 }).1
@[reducible] noncomputable def fo163 : Obj := (⟨_, by (conv => rhs; whnf); try rfl⟩ : { o : Obj // o = fob m163 (Str.ofString "Steps.add") (Str.ofString "minismt.proof") 295 162 }).1
@[reducible] noncomputable def fo234 : Obj := (⟨_, by (conv => rhs; whnf); try rfl⟩ : { o : Obj // o = fob s15 (Str.ofString "note_text") (Str.ofString "minismt.proof") 295 233 }).1
@[reducible] noncomputable def fo239 : Obj := (⟨_, by (conv => rhs; whnf); try rfl⟩ : { o : Obj // o = fob s16 (Str.ofString "row_of") (Str.ofString "minismt.proof") 295 238 }).1
@[reducible] noncomputable def fo246 : Obj := (⟨_, by (conv => rhs; whnf); try rfl⟩ : { o : Obj // o = fob s17 (Str.ofString "proof_text") (Str.ofString "minismt.proof") 295 245 }).1
@[reducible] noncomputable def fo251 : Obj := (⟨_, by (conv => rhs; whnf); try rfl⟩ : { o : Obj // o = fob s18 (Str.ofString "is_number_word") (Str.ofString "minismt.proof") 295 250 }).1
@[reducible] noncomputable def fo258 : Obj := (⟨_, by (conv => rhs; whnf); try rfl⟩ : { o : Obj // o = fob s19 (Str.ofString "number_from") (Str.ofString "minismt.proof") 295 257 }).1
@[reducible] noncomputable def fo263 : Obj := (⟨_, by (conv => rhs; whnf); try rfl⟩ : { o : Obj // o = fob s20 (Str.ofString "numbers_in") (Str.ofString "minismt.proof") 295 262 }).1
@[reducible] noncomputable def fo270 : Obj := (⟨_, by (conv => rhs; whnf); try rfl⟩ : { o : Obj // o = fob s21 (Str.ofString "note_from") (Str.ofString "minismt.proof") 295 269 }).1
@[reducible] noncomputable def fo277 : Obj := (⟨_, by (conv => rhs; whnf); try rfl⟩ : { o : Obj // o = fob s22 (Str.ofString "read_step") (Str.ofString "minismt.proof") 295 276 }).1
@[reducible] noncomputable def fo284 : Obj := (⟨_, by (conv => rhs; whnf); try rfl⟩ : { o : Obj // o = fob s23 (Str.ofString "read_proof") (Str.ofString "minismt.proof") 295 283 }).1
@[reducible] noncomputable def fo291 : Obj := (⟨_, by (conv => rhs; whnf); try rfl⟩ : { o : Obj // o = fob s25 (Str.ofString "_law_tap") (Str.ofString "law_rg0208_01") 562 290 }).1
@[reducible] noncomputable def fo298 : Obj := (⟨_, by (conv => rhs; whnf); try rfl⟩ : { o : Obj // o = fob s26 (Str.ofString "_law_row") (Str.ofString "law_rg0208_01") 562 297 }).1
@[reducible] noncomputable def fo305 : Obj := (⟨_, by (conv => rhs; whnf); try rfl⟩ : { o : Obj // o = fob s27 (Str.ofString "_law_is_number_right") (Str.ofString "law_rg0208_01") 562 304 }).1
@[reducible] noncomputable def fo312 : Obj := (⟨_, by (conv => rhs; whnf); try rfl⟩ : { o : Obj // o = fob s28 (Str.ofString "_law_is_proof_right") (Str.ofString "law_rg0208_01") 562 311 }).1
@[reducible] noncomputable def fo319 : Obj := (⟨_, by (conv => rhs; whnf); try rfl⟩ : { o : Obj // o = fob s29 (Str.ofString "_law_is_step_right") (Str.ofString "law_rg0208_01") 562 318 }).1
@[reducible] noncomputable def fo324 : Obj := (⟨_, by (conv => rhs; whnf); try rfl⟩ : { o : Obj // o = fob s30 (Str.ofString "law") (Str.ofString "law_rg0208_01") 562 323 }).1
noncomputable def Kw : Params → Frag := fun P =>
  (nat_lit 2, ({ cls := Value.none, data := Data.dict #[{ hash := PyData.keyHash P (Str.ofString "type.__subclasses__.Exception.0"), key := Value.str (Str.ofString "type.__subclasses__.Exception.0") 230, val := Value.int 47 0 }, { hash := PyData.keyHash P (Str.ofString "type.__subclasses__.Exception.n"), key := Value.str (Str.ofString "type.__subclasses__.Exception.n") 231, val := Value.int 1 0 }] 2 } : Obj)) ::
  (nat_lit 3, ({ cls := Value.type "dict", data := Data.dict #[{ hash := PyData.keyHash P (Str.ofString "__name__"), key := Value.str (Str.ofString "__name__") 165, val := Value.str (Str.ofString "law_rg0208_01") 562 }, { hash := PyData.keyHash P (Str.ofString "__doc__"), key := Value.str (Str.ofString "__doc__") 166, val := Value.none }, { hash := PyData.keyHash P (Str.ofString "__package__"), key := Value.str (Str.ofString "__package__") 167, val := Value.none }, { hash := PyData.keyHash P (Str.ofString "__loader__"), key := Value.str (Str.ofString "__loader__") 168, val := Value.builtin "__main__.__loader__#\x6fpaque" }, { hash := PyData.keyHash P (Str.ofString "__spec__"), key := Value.str (Str.ofString "__spec__") 169, val := Value.none }, { hash := PyData.keyHash P (Str.ofString "__annotations__"), key := Value.str (Str.ofString "__annotations__") 170, val := Value.ref 6 }, { hash := PyData.keyHash P (Str.ofString "__builtins__"), key := Value.str (Str.ofString "__builtins__") 171, val := Value.ref 4 }, { hash := PyData.keyHash P (Str.ofString "__file__"), key := Value.str (Str.ofString "__file__") 173, val := Value.str (Str.ofString "/claim/cut.py") 172 }, { hash := PyData.keyHash P (Str.ofString "__cached__"), key := Value.str (Str.ofString "__cached__") 174, val := Value.none }, { hash := PyData.keyHash P (Str.ofString "_wall"), key := Value.str (Str.ofString "_wall") 193, val := Value.ref 21 }, { hash := PyData.keyHash P (Str.ofString "SmtError"), key := Value.str (Str.ofString "SmtError") 233, val := Value.ref 47 }, { hash := PyData.keyHash P (Str.ofString "ProofFault"), key := Value.str (Str.ofString "ProofFault") 268, val := Value.ref 76 }, { hash := PyData.keyHash P (Str.ofString "BLOCK"), key := Value.str (Str.ofString "BLOCK") 272, val := Value.int 1000 271 }, { hash := PyData.keyHash P (Str.ofString "ROUND"), key := Value.str (Str.ofString "ROUND") 275, val := Value.int 10000000000000000000000000000000000000000000000000000000000000000000000000000000000000000000000000000000000000000000000000000000000000000000000000000000000000000000000000000000000000000000000000000000000000000000000000000000000000000000000000000000000000000000000000000000000000000000000000000000000000000000000000000000000000000000000000000000000000000000000000000000000000000000000000000000000000000000000000000000000000000000000000000000000000000000000000000000000000000000000000000000000000000000000000000000000000000000000000000000000000000000000000000000000000000000000000000000000000000000000000000000000000000000000000000000000000000000000000000000000000000000000000000000000000000000000000000000000000000000000000000000000000000000000000000000000000000000000000000000000000000000000000000000000000000000000000000000000000000000000000000000000000000000000000000000000000000000000000000000000000000000000000000000000000000000000000000000000000000000000000000000000000000000000000000000000000000 274 }, { hash := PyData.keyHash P (Str.ofString "figures_of"), key := Value.str (Str.ofString "figures_of") 284, val := Value.ref 85 }, { hash := PyData.keyHash P (Str.ofString "number_in"), key := Value.str (Str.ofString "number_in") 294, val := Value.ref 92 }, { hash := PyData.keyHash P (Str.ofString "RULES"), key := Value.str (Str.ofString "RULES") 308, val := Value.ref 93 }, { hash := PyData.keyHash P (Str.ofString "FIGURES"), key := Value.str (Str.ofString "FIGURES") 310, val := Value.str (Str.ofString "0123456789") 309 }, { hash := PyData.keyHash P (Str.ofString "is_tidy"), key := Value.str (Str.ofString "is_tidy") 318, val := Value.ref 100 }, { hash := PyData.keyHash P (Str.ofString "Steps"), key := Value.str (Str.ofString "Steps") 417, val := Value.ref 173 }, { hash := PyData.keyHash P (Str.ofString "Proof"), key := Value.str (Str.ofString "Proof") 480, val := Value.ref 227 }, { hash := PyData.keyHash P (Str.ofString "note_text"), key := Value.str (Str.ofString "note_text") 486, val := Value.ref 234 }, { hash := PyData.keyHash P (Str.ofString "row_of"), key := Value.str (Str.ofString "row_of") 492, val := Value.ref 239 }, { hash := PyData.keyHash P (Str.ofString "proof_text"), key := Value.str (Str.ofString "proof_text") 508, val := Value.ref 246 }, { hash := PyData.keyHash P (Str.ofString "is_number_word"), key := Value.str (Str.ofString "is_number_word") 514, val := Value.ref 251 }, { hash := PyData.keyHash P (Str.ofString "number_from"), key := Value.str (Str.ofString "number_from") 521, val := Value.ref 258 }, { hash := PyData.keyHash P (Str.ofString "numbers_in"), key := Value.str (Str.ofString "numbers_in") 527, val := Value.ref 263 }, { hash := PyData.keyHash P (Str.ofString "note_from"), key := Value.str (Str.ofString "note_from") 538, val := Value.ref 270 }, { hash := PyData.keyHash P (Str.ofString "read_step"), key := Value.str (Str.ofString "read_step") 549, val := Value.ref 277 }, { hash := PyData.keyHash P (Str.ofString "read_proof"), key := Value.str (Str.ofString "read_proof") 561, val := Value.ref 284 }, { hash := PyData.keyHash P (Str.ofString "_law_tap"), key := Value.str (Str.ofString "_law_tap") 572, val := Value.ref 291 }, { hash := PyData.keyHash P (Str.ofString "_law_row"), key := Value.str (Str.ofString "_law_row") 584, val := Value.ref 298 }, { hash := PyData.keyHash P (Str.ofString "_law_is_number_right"), key := Value.str (Str.ofString "_law_is_number_right") 593, val := Value.ref 305 }, { hash := PyData.keyHash P (Str.ofString "_law_is_proof_right"), key := Value.str (Str.ofString "_law_is_proof_right") 606, val := Value.ref 312 }, { hash := PyData.keyHash P (Str.ofString "_law_is_step_right"), key := Value.str (Str.ofString "_law_is_step_right") 617, val := Value.ref 319 }, { hash := PyData.keyHash P (Str.ofString "law"), key := Value.str (Str.ofString "law") 623, val := Value.ref 324 }] 36 } : Obj)) ::
  (nat_lit 84, ({ cls := Value.type "code", data := Data.fields #[Value.str (Str.ofString "figures_of") 276, Value.str (Str.ofString "figures_of") 277, Value.str (Str.ofString "/claim/cut.py") 278, Value.int 24 0, Value.int 1 0, Value.int 0 0, Value.int 0 0, Value.int 3 0, Value.ref 79, Value.bool true, Value.int 181 0, Value.ref 80, Value.none, Value.ref 81, Value.ref 82, Value.ref 83, Value.int 282 0, Value.int 24 0, Value.str (Str.ofString "/claim/cut.py") 283] } : Obj)) ::
  (nat_lit 85, fo85) ::
  (nat_lit 91, ({ cls := Value.type "code", data := Data.fields #[Value.str (Str.ofString "number_in") 285, Value.str (Str.ofString "number_in") 286, Value.str (Str.ofString "/claim/cut.py") 287, Value.int 32 0, Value.int 1 0, Value.int 0 0, Value.int 0 0, Value.int 3 0, Value.ref 86, Value.bool true, Value.int 181 0, Value.ref 87, Value.none, Value.ref 88, Value.ref 89, Value.ref 90, Value.int 292 0, Value.int 32 0, Value.str (Str.ofString "/claim/cut.py") 293] } : Obj)) ::
  (nat_lit 92, fo92) ::
  (nat_lit 93, ({ cls := Value.type "tuple", data := Data.seq #[Value.str (Str.ofString "input") 297, Value.str (Str.ofString "define") 298, Value.str (Str.ofString "ite_term") 299, Value.str (Str.ofString "three") 300, Value.str (Str.ofString "bits") 301, Value.str (Str.ofString "congruence") 302, Value.str (Str.ofString "farkas") 303, Value.str (Str.ofString "branch") 304, Value.str (Str.ofString "divide") 305, Value.str (Str.ofString "cut") 306, Value.str (Str.ofString "resolve") 307] } : Obj)) ::
  (nat_lit 99, ({ cls := Value.type "code", data := Data.fields #[Value.str (Str.ofString "is_tidy") 311, Value.str (Str.ofString "is_tidy") 312, Value.str (Str.ofString "/claim/cut.py") 313, Value.int 41 0, Value.int 1 0, Value.int 0 0, Value.int 0 0, Value.int 3 0, Value.ref 94, Value.bool true, Value.int 181 0, Value.ref 95, Value.none, Value.ref 96, Value.ref 97, Value.ref 98, Value.int 316 0, Value.int 41 0, Value.str (Str.ofString "/claim/cut.py") 317] } : Obj)) ::
  (nat_lit 100, fo100) ::
  (nat_lit 113, ({ cls := Value.type "code", data := Data.fields #[Value.str (Str.ofString "__init__") 331, Value.str (Str.ofString "Steps.__init__") 332, Value.str (Str.ofString "/claim/cut.py") 333, Value.int 50 0, Value.int 1 0, Value.int 0 0, Value.int 0 0, Value.int 3 0, Value.ref 108, Value.bool true, Value.int 181 0, Value.ref 109, Value.none, Value.ref 110, Value.ref 111, Value.ref 112, Value.int 335 0, Value.int 50 0, Value.str (Str.ofString "/claim/cut.py") 336] } : Obj)) ::
  (nat_lit 114, fo114) ::
  (nat_lit 134, ({ cls := Value.type "code", data := Data.fields #[Value.str (Str.ofString "var_count") 355, Value.str (Str.ofString "Steps.var_count") 356, Value.str (Str.ofString "/claim/cut.py") 357, Value.int 65 0, Value.int 1 0, Value.int 0 0, Value.int 0 0, Value.int 3 0, Value.ref 129, Value.bool true, Value.int 181 0, Value.ref 130, Value.none, Value.ref 131, Value.ref 132, Value.ref 133, Value.int 359 0, Value.int 65 0, Value.str (Str.ofString "/claim/cut.py") 360] } : Obj)) ::
  (nat_lit 135, fo135) ::
  (nat_lit 141, ({ cls := Value.type "code", data := Data.fields #[Value.str (Str.ofString "size") 362, Value.str (Str.ofString "Steps.size") 363, Value.str (Str.ofString "/claim/cut.py") 364, Value.int 68 0, Value.int 1 0, Value.int 0 0, Value.int 0 0, Value.int 3 0, Value.ref 136, Value.bool true, Value.int 181 0, Value.ref 137, Value.none, Value.ref 138, Value.ref 139, Value.ref 140, Value.int 366 0, Value.int 68 0, Value.str (Str.ofString "/claim/cut.py") 367] } : Obj)) ::
  (nat_lit 142, fo142) ::
  (nat_lit 162, ({ cls := Value.type "code", data := Data.fields #[Value.str (Str.ofString "add") 385, Value.str (Str.ofString "Steps.add") 386, Value.str (Str.ofString "/claim/cut.py") 387, Value.int 77 0, Value.int 5 0, Value.int 0 0, Value.int 0 0, Value.int 3 0, Value.ref 157, Value.bool true, Value.int 181 0, Value.ref 158, Value.none, Value.ref 159, Value.ref 160, Value.ref 161, Value.int 395 0, Value.int 77 0, Value.str (Str.ofString "/claim/cut.py") 396] } : Obj)) ::
  (nat_lit 163, fo163) ::
  (nat_lit 172, ({ cls := Value.type "dict", data := Data.dict #[{ hash := PyData.keyHash P (Str.ofString "__module__"), key := Value.str (Str.ofString "__module__") 326, val := Value.str (Str.ofString "minismt.proof") 295 }, { hash := PyData.keyHash P (Str.ofString "__firstlineno__"), key := Value.str (Str.ofString "__firstlineno__") 330, val := Value.int 48 329 }, { hash := PyData.keyHash P (Str.ofString "__init__"), key := Value.str (Str.ofString "__init__") 337, val := Value.ref 114 }, { hash := PyData.keyHash P (Str.ofString "name"), key := Value.str (Str.ofString "name") 346, val := Value.ref 121 }, { hash := PyData.keyHash P (Str.ofString "names"), key := Value.str (Str.ofString "names") 354, val := Value.ref 128 }, { hash := PyData.keyHash P (Str.ofString "var_count"), key := Value.str (Str.ofString "var_count") 361, val := Value.ref 135 }, { hash := PyData.keyHash P (Str.ofString "size"), key := Value.str (Str.ofString "size") 368, val := Value.ref 142 }, { hash := PyData.keyHash P (Str.ofString "clause"), key := Value.str (Str.ofString "clause") 376, val := Value.ref 149 }, { hash := PyData.keyHash P (Str.ofString "rule"), key := Value.str (Str.ofString "rule") 384, val := Value.ref 156 }, { hash := PyData.keyHash P (Str.ofString "add"), key := Value.str (Str.ofString "add") 397, val := Value.ref 163 }, { hash := PyData.keyHash P (Str.ofString "chain"), key := Value.str (Str.ofString "chain") 406, val := Value.ref 170 }, { hash := PyData.keyHash P (Str.ofString "__static_attributes__"), key := Value.str (Str.ofString "__static_attributes__") 410, val := Value.ref 171 }, { hash := PyData.keyHash P (Str.ofString "__dict__"), key := Value.str (Str.ofString "__dict__") 412, val := Value.ref 174 }, { hash := PyData.keyHash P (Str.ofString "__weakref__"), key := Value.str (Str.ofString "__weakref__") 414, val := Value.ref 175 }, { hash := PyData.keyHash P (Str.ofString "__doc__"), key := Value.str (Str.ofString "__doc__") 415, val := Value.none }] 4 } : Obj)) ::
  (nat_lit 173, ({ cls := Value.type "type", data := Data.cls { name := Str.ofString "Steps", bases := [Value.type "object"], mro := [Value.ref 173, Value.type "object"], ns := 172, qualname := Str.ofString "Steps", subclasses := [Value.ref 227] }, slots := #[none, none, some (Value.str (Str.ofString "Steps") 319), some (Value.str (Str.ofString "Steps") 327), some (Value.builtin "object.__new__"), some (Value.bool true)] } : Obj)) ::
  (nat_lit 226, ({ cls := Value.type "dict", data := Data.dict #[{ hash := PyData.keyHash P (Str.ofString "__module__"), key := Value.str (Str.ofString "__module__") 425, val := Value.str (Str.ofString "minismt.proof") 295 }, { hash := PyData.keyHash P (Str.ofString "__firstlineno__"), key := Value.str (Str.ofString "__firstlineno__") 429, val := Value.int 93 428 }, { hash := PyData.keyHash P (Str.ofString "needed"), key := Value.str (Str.ofString "needed") 440, val := Value.ref 191 }, { hash := PyData.keyHash P (Str.ofString "trimmed"), key := Value.str (Str.ofString "trimmed") 446, val := Value.ref 196 }, { hash := PyData.keyHash P (Str.ofString "trim"), key := Value.str (Str.ofString "trim") 453, val := Value.ref 203 }, { hash := PyData.keyHash P (Str.ofString "used_inputs"), key := Value.str (Str.ofString "used_inputs") 461, val := Value.ref 210 }, { hash := PyData.keyHash P (Str.ofString "counts"), key := Value.str (Str.ofString "counts") 468, val := Value.ref 217 }, { hash := PyData.keyHash P (Str.ofString "depth"), key := Value.str (Str.ofString "depth") 476, val := Value.ref 224 }, { hash := PyData.keyHash P (Str.ofString "__static_attributes__"), key := Value.str (Str.ofString "__static_attributes__") 477, val := Value.ref 225 }, { hash := PyData.keyHash P (Str.ofString "__doc__"), key := Value.str (Str.ofString "__doc__") 478, val := Value.none }] 2 } : Obj)) ::
  (nat_lit 227, ({ cls := Value.type "type", data := Data.cls { name := Str.ofString "Proof", bases := [Value.ref 173], mro := [Value.ref 227, Value.ref 173, Value.type "object"], ns := 226, qualname := Str.ofString "Proof" }, slots := #[some (Value.ref 178), none, some (Value.str (Str.ofString "Proof") 418), some (Value.str (Str.ofString "Proof") 426), some (Value.builtin "object.__new__"), some (Value.bool true)] } : Obj)) ::
  (nat_lit 233, ({ cls := Value.type "code", data := Data.fields #[Value.str (Str.ofString "note_text") 481, Value.str (Str.ofString "note_text") 482, Value.str (Str.ofString "/claim/cut.py") 483, Value.int 123 0, Value.int 1 0, Value.int 0 0, Value.int 0 0, Value.int 3 0, Value.ref 230, Value.bool true, Value.int 181 0, Value.ref 231, Value.none, Value.none, Value.none, Value.ref 232, Value.int 484 0, Value.int 123 0, Value.str (Str.ofString "/claim/cut.py") 485] } : Obj)) ::
  (nat_lit 234, fo234) ::
  (nat_lit 238, ({ cls := Value.type "code", data := Data.fields #[Value.str (Str.ofString "row_of") 487, Value.str (Str.ofString "row_of") 488, Value.str (Str.ofString "/claim/cut.py") 489, Value.int 131 0, Value.int 1 0, Value.int 0 0, Value.int 0 0, Value.int 3 0, Value.ref 235, Value.bool true, Value.int 181 0, Value.ref 236, Value.none, Value.none, Value.none, Value.ref 237, Value.int 490 0, Value.int 131 0, Value.str (Str.ofString "/claim/cut.py") 491] } : Obj)) ::
  (nat_lit 239, fo239) ::
  (nat_lit 245, ({ cls := Value.type "code", data := Data.fields #[Value.str (Str.ofString "proof_text") 493, Value.str (Str.ofString "proof_text") 494, Value.str (Str.ofString "/claim/cut.py") 495, Value.int 133 0, Value.int 2 0, Value.int 0 0, Value.int 0 0, Value.int 3 0, Value.ref 240, Value.bool true, Value.int 181 0, Value.ref 241, Value.none, Value.ref 242, Value.ref 243, Value.ref 244, Value.int 506 0, Value.int 133 0, Value.str (Str.ofString "/claim/cut.py") 507] } : Obj)) ::
  (nat_lit 246, fo246) ::
  (nat_lit 250, ({ cls := Value.type "code", data := Data.fields #[Value.str (Str.ofString "is_number_word") 509, Value.str (Str.ofString "is_number_word") 510, Value.str (Str.ofString "/claim/cut.py") 511, Value.int 142 0, Value.int 1 0, Value.int 0 0, Value.int 0 0, Value.int 3 0, Value.ref 247, Value.bool true, Value.int 181 0, Value.ref 248, Value.none, Value.none, Value.none, Value.ref 249, Value.int 512 0, Value.int 142 0, Value.str (Str.ofString "/claim/cut.py") 513] } : Obj)) ::
  (nat_lit 251, fo251) ::
  (nat_lit 257, ({ cls := Value.type "code", data := Data.fields #[Value.str (Str.ofString "number_from") 515, Value.str (Str.ofString "number_from") 516, Value.str (Str.ofString "/claim/cut.py") 517, Value.int 145 0, Value.int 1 0, Value.int 0 0, Value.int 0 0, Value.int 3 0, Value.ref 252, Value.bool true, Value.int 181 0, Value.ref 253, Value.none, Value.ref 254, Value.ref 255, Value.ref 256, Value.int 519 0, Value.int 145 0, Value.str (Str.ofString "/claim/cut.py") 520] } : Obj)) ::
  (nat_lit 258, fo258) ::
  (nat_lit 262, ({ cls := Value.type "code", data := Data.fields #[Value.str (Str.ofString "numbers_in") 522, Value.str (Str.ofString "numbers_in") 523, Value.str (Str.ofString "/claim/cut.py") 524, Value.int 147 0, Value.int 2 0, Value.int 0 0, Value.int 0 0, Value.int 3 0, Value.ref 259, Value.bool true, Value.int 181 0, Value.ref 260, Value.none, Value.none, Value.none, Value.ref 261, Value.int 525 0, Value.int 147 0, Value.str (Str.ofString "/claim/cut.py") 526] } : Obj)) ::
  (nat_lit 263, fo263) ::
  (nat_lit 269, ({ cls := Value.type "code", data := Data.fields #[Value.str (Str.ofString "note_from") 528, Value.str (Str.ofString "note_from") 529, Value.str (Str.ofString "/claim/cut.py") 530, Value.int 155 0, Value.int 2 0, Value.int 0 0, Value.int 0 0, Value.int 3 0, Value.ref 264, Value.bool true, Value.int 181 0, Value.ref 265, Value.none, Value.ref 266, Value.ref 267, Value.ref 268, Value.int 536 0, Value.int 155 0, Value.str (Str.ofString "/claim/cut.py") 537] } : Obj)) ::
  (nat_lit 270, fo270) ::
  (nat_lit 276, ({ cls := Value.type "code", data := Data.fields #[Value.str (Str.ofString "read_step") 539, Value.str (Str.ofString "read_step") 540, Value.str (Str.ofString "/claim/cut.py") 541, Value.int 172 0, Value.int 3 0, Value.int 0 0, Value.int 0 0, Value.int 3 0, Value.ref 271, Value.bool true, Value.int 181 0, Value.ref 272, Value.none, Value.ref 273, Value.ref 274, Value.ref 275, Value.int 547 0, Value.int 172 0, Value.str (Str.ofString "/claim/cut.py") 548] } : Obj)) ::
  (nat_lit 277, fo277) ::
  (nat_lit 283, ({ cls := Value.type "code", data := Data.fields #[Value.str (Str.ofString "read_proof") 550, Value.str (Str.ofString "read_proof") 551, Value.str (Str.ofString "/claim/cut.py") 552, Value.int 178 0, Value.int 1 0, Value.int 0 0, Value.int 0 0, Value.int 3 0, Value.ref 278, Value.bool true, Value.int 181 0, Value.ref 279, Value.none, Value.ref 280, Value.ref 281, Value.ref 282, Value.int 559 0, Value.int 178 0, Value.str (Str.ofString "/claim/cut.py") 560] } : Obj)) ::
  (nat_lit 284, fo284) ::
  (nat_lit 290, ({ cls := Value.type "code", data := Data.fields #[Value.str (Str.ofString "_law_tap") 564, Value.str (Str.ofString "_law_tap") 565, Value.str (Str.ofString "/claim/cut.py") 566, Value.int 194 0, Value.int 2 0, Value.int 0 0, Value.int 0 0, Value.int 3 0, Value.ref 285, Value.bool true, Value.int 181 0, Value.ref 286, Value.none, Value.ref 287, Value.ref 288, Value.ref 289, Value.int 570 0, Value.int 194 0, Value.str (Str.ofString "/claim/cut.py") 571] } : Obj)) ::
  (nat_lit 291, fo291) ::
  (nat_lit 297, ({ cls := Value.type "code", data := Data.fields #[Value.str (Str.ofString "_law_row") 573, Value.str (Str.ofString "_law_row") 574, Value.str (Str.ofString "/claim/cut.py") 575, Value.int 198 0, Value.int 1 0, Value.int 0 0, Value.int 0 0, Value.int 3 0, Value.ref 292, Value.bool true, Value.int 181 0, Value.ref 293, Value.none, Value.ref 294, Value.ref 295, Value.ref 296, Value.int 582 0, Value.int 198 0, Value.str (Str.ofString "/claim/cut.py") 583] } : Obj)) ::
  (nat_lit 298, fo298) ::
  (nat_lit 304, ({ cls := Value.type "code", data := Data.fields #[Value.str (Str.ofString "_law_is_number_right") 585, Value.str (Str.ofString "_law_is_number_right") 586, Value.str (Str.ofString "/claim/cut.py") 587, Value.int 204 0, Value.int 2 0, Value.int 0 0, Value.int 0 0, Value.int 3 0, Value.ref 299, Value.bool true, Value.int 181 0, Value.ref 300, Value.none, Value.ref 301, Value.ref 302, Value.ref 303, Value.int 591 0, Value.int 204 0, Value.str (Str.ofString "/claim/cut.py") 592] } : Obj)) ::
  (nat_lit 305, fo305) ::
  (nat_lit 311, ({ cls := Value.type "code", data := Data.fields #[Value.str (Str.ofString "_law_is_proof_right") 594, Value.str (Str.ofString "_law_is_proof_right") 595, Value.str (Str.ofString "/claim/cut.py") 596, Value.int 209 0, Value.int 2 0, Value.int 0 0, Value.int 0 0, Value.int 3 0, Value.ref 306, Value.bool true, Value.int 181 0, Value.ref 307, Value.none, Value.ref 308, Value.ref 309, Value.ref 310, Value.int 604 0, Value.int 209 0, Value.str (Str.ofString "/claim/cut.py") 605] } : Obj)) ::
  (nat_lit 312, fo312) ::
  (nat_lit 318, ({ cls := Value.type "code", data := Data.fields #[Value.str (Str.ofString "_law_is_step_right") 607, Value.str (Str.ofString "_law_is_step_right") 608, Value.str (Str.ofString "/claim/cut.py") 609, Value.int 217 0, Value.int 3 0, Value.int 0 0, Value.int 0 0, Value.int 3 0, Value.ref 313, Value.bool true, Value.int 181 0, Value.ref 314, Value.none, Value.ref 315, Value.ref 316, Value.ref 317, Value.int 615 0, Value.int 217 0, Value.str (Str.ofString "/claim/cut.py") 616] } : Obj)) ::
  (nat_lit 319, fo319) ::
  (nat_lit 323, ({ cls := Value.type "code", data := Data.fields #[Value.str (Str.ofString "law") 618, Value.str (Str.ofString "law") 619, Value.str (Str.ofString "/claim/cut.py") 620, Value.int 223 0, Value.int 1 0, Value.int 0 0, Value.int 0 0, Value.int 3 0, Value.ref 320, Value.bool true, Value.int 181 0, Value.ref 321, Value.none, Value.none, Value.none, Value.ref 322, Value.int 621 0, Value.int 223 0, Value.str (Str.ofString "/claim/cut.py") 622] } : Obj)) ::
  (nat_lit 324, fo324) :: []
def asK : List Addr := nat_lit 2 :: nat_lit 3 :: nat_lit 84 :: nat_lit 85 :: nat_lit 91 :: nat_lit 92 :: nat_lit 93 :: nat_lit 99 :: nat_lit 100 :: nat_lit 113 :: nat_lit 114 :: nat_lit 134 :: nat_lit 135 :: nat_lit 141 :: nat_lit 142 :: nat_lit 162 :: nat_lit 163 :: nat_lit 172 :: nat_lit 173 :: nat_lit 226 :: nat_lit 227 :: nat_lit 233 :: nat_lit 234 :: nat_lit 238 :: nat_lit 239 :: nat_lit 245 :: nat_lit 246 :: nat_lit 250 :: nat_lit 251 :: nat_lit 257 :: nat_lit 258 :: nat_lit 262 :: nat_lit 263 :: nat_lit 269 :: nat_lit 270 :: nat_lit 276 :: nat_lit 277 :: nat_lit 283 :: nat_lit 284 :: nat_lit 290 :: nat_lit 291 :: nat_lit 297 :: nat_lit 298 :: nat_lit 304 :: nat_lit 305 :: nat_lit 311 :: nat_lit 312 :: nat_lit 318 :: nat_lit 319 :: nat_lit 323 :: nat_lit 324 :: []
theorem asK_eq : ∀ P, asK = (Kw P).map (·.1) := fun _ => by kernel_rfl
abbrev lvK : List (PySem.Str × WData) := [(Str.ofString "ROUND", WData.int 10000000000000000000000000000000000000000000000000000000000000000000000000000000000000000000000000000000000000000000000000000000000000000000000000000000000000000000000000000000000000000000000000000000000000000000000000000000000000000000000000000000000000000000000000000000000000000000000000000000000000000000000000000000000000000000000000000000000000000000000000000000000000000000000000000000000000000000000000000000000000000000000000000000000000000000000000000000000000000000000000000000000000000000000000000000000000000000000000000000000000000000000000000000000000000000000000000000000000000000000000000000000000000000000000000000000000000000000000000000000000000000000000000000000000000000000000000000000000000000000000000000000000000000000000000000000000000000000000000000000000000000000000000000000000000000000000000000000000000000000000000000000000000000000000000000000000000000000000000000000000000000000000000000000000000000000000000000000000000000000000000000000000000000000000000000000000000)]
set_option maxRecDepth 1000000 in
set_option maxHeartbeats 0 in
theorem core (w : World) (os : OsState) : (topFrom treeTable PySem.Challenge.pw_rg0208_01 w 4380 ⟨boot_heap w.params, Array.mk [], boot_drawn, boot_toks, os⟩).map (fun s => (openSeen vw [Str.ofString "ROUND"] (importedModules PySem.Challenge.pw_rg0208_01.main.body) (fun s => xlAt vw lvK s && recOk [] s) true s, Hook.obs (kHook Kw asK asK_eq) s)) = some (openGood vw [Str.ofString "ROUND"], Hook.val (kHook Kw asK asK_eq) w) := by
  unfold topFrom
  rw [PySem.W.Fast.te14082659384304107361, PySem.W.Fast.te4187177175401517315, PySem.W.Fast.te14364793385576792824]
  kernel_rfl
end Mine
end
section
open PySem PySem.W PyProof.Rows
namespace Mine
set_option maxRecDepth 100000

theorem left : LeftO PySem.Challenge.pw_rg0208_01 vw [Str.ofString "ROUND"] (fun s => xlAt vw lvK s && recOk [] s) (Hook.obs (kHook Kw asK asK_eq)) (Hook.val (kHook Kw asK asK_eq)) 4380 := fun w => by
  have hb := boot_open (p := PySem.Challenge.pw_rg0208_01) (N := 4380) (by kernel_rfl) (by decide) (fun s => rfl) w
  obtain ⟨s, hs, hv⟩ := Option.map_eq_some_iff.mp hb
  obtain ⟨h, g, d, t, os⟩ := s
  simp only [Prod.mk.injEq] at hv
  obtain ⟨rfl, rfl, rfl, rfl⟩ := hv
  unfold openEnds
  rw [hs, Option.bind_some]
  exact core w os
end Mine
end
section
open PySem PySem.W PyProof.Rows
namespace Mine
def Stop (P : Prop) : Prop := P
theorem stop {P : Prop} (h : Stop P) : P := h

/-- what a call of the def at f does -/
abbrev Does (w : World) (mean : ExcName → Option Value) (mg mb : Str → Option Value) (f : Addr) (vs : List Value) (rm : Nat) (news : List (Addr × Obj)) (Post : Value → List (Addr × Obj) → Prop) : Prop :=
  ∀ (dp un : Nat) (gd : Option (List Code)) (cn : Str) (cs : Scope) (a : Addr) (ccd : Value) (cl : List (Str × Addr)) (outer : List Env) (A₀ : Around) (base h₀ : Heap) (L : Addr) (m : Str → Option Value) (s : Shared) (Q E : Value → Shared → Prop),
    Below A₀ base outer h₀ → Fr h₀ L s.heap m → (Kw w.params).In h₀ → News h₀ L s.heap news → Top vw (looseW vw [Str.ofString "ROUND"]) mean mg mb h₀ → cs.kind = .function → dp + rm < recursionLimit → un + 8 * rm < cLine →
    (∀ v news' h' tk', Fr h₀ L h' m → News h₀ L h' news' → Post v news' → Q v { s with heap := h', toks := tk' }) →
    wpAny (model PySem.Challenge.rw_rg0208_01.row.prog w) (ktrTop dp un gd cn cs L a ccd cl outer) (call (.ref f) vs) Q E s
end Mine
end
section
open PySem PySem.W PyProof.Rows PySem.Calls PyProof
namespace Mine
open PySem.NumText

/-! ### slices -/
theorem slice_clip (x : Str) (i j : Int) (hj : 0 ≤ j) : Txt.slice x (some i) (some j) = Txt.slice x (some i) (some (min j x.length)) := by
  have e : Builtin.Str.strSliceIndices (some i) (some j) 1 x.length = Builtin.Str.strSliceIndices (some i) (some (min j x.length)) 1 x.length := by
    unfold Builtin.Str.strSliceIndices
    have h1 : ¬ j < 0 := by omega
    have h2 : ¬ min j (x.length : Int) < 0 := by omega
    have h3 : min (min j (x.length : Int)) x.length = min j x.length := by omega
    simp only [h1, h2, if_false, h3, show (1 : Int) > 0 by decide, if_true]
  unfold Txt.slice
  rw [e]
theorem slice_mid {x : Str} {i j : Int} (h0 : 0 ≤ i) (h1 : i ≤ x.length) (h2 : i ≤ j) : (Txt.slice x (some i) (some j)).cps.toList = (x.cps.toList.drop i.toNat).take (j - i).toNat := by
  rw [slice_clip x i j (by omega)]
  rw [beq_iff_eq.mp (slice_closesL (x := x) (i := i) (j := min j x.length) h0 (by omega) (by omega))]
  show (x.cps.toList.drop i.toNat).take _ = _
  have hl : (x.cps.toList.drop i.toNat).length = x.length - i.toNat := by rw [List.length_drop]; rfl
  by_cases h : j ≤ x.length
  · rw [Int.min_eq_left h]
  · rw [Int.min_eq_right (by omega), List.take_of_length_le (by omega), List.take_of_length_le (by omega)]
theorem slice_tail {x : Str} {i : Int} (h0 : 0 ≤ i) (h1 : i ≤ x.length) : (Txt.slice x (some i) none).cps.toList = x.cps.toList.drop i.toNat := by
  rw [slice_from_eq h0 h1 rfl]
  show (x.cps.toList.drop i.toNat).take _ = _
  have hl : (x.cps.toList.drop i.toNat).length = x.length - i.toNat := by rw [List.length_drop]; rfl
  exact List.take_of_length_le (by omega)

/-! ### figures -/
theorem digits_fold : ∀ (cs : List Nat) (a : Nat), cs.foldl (fun acc c => acc * 10 + (c - 48)) a = a * 10 ^ cs.length + digitsVal cs
  | [], a => by simp [digitsVal]
  | c :: cs, a => by
    have e : digitsVal (c :: cs) = cs.foldl (fun acc c => acc * 10 + (c - 48)) (0 * 10 + (c - 48)) := rfl
    rw [e, List.foldl_cons, digits_fold cs, digits_fold cs (0 * 10 + (c - 48)), List.length_cons, Nat.pow_succ]
    have : 10 ^ cs.length * 10 = 10 * 10 ^ cs.length := Nat.mul_comm _ _
    rw [this, Nat.add_mul, Nat.mul_assoc]
    simp only [Nat.zero_mul, Nat.zero_add]
    omega
theorem digitsVal_app (a b : List Nat) : digitsVal (a ++ b) = digitsVal a * 10 ^ b.length + digitsVal b := by
  have := digits_fold b (digitsVal a)
  unfold digitsVal at this ⊢
  rw [List.foldl_append, this]
theorem digitsVal_lt : ∀ {cs : List Nat}, AllDigits cs → digitsVal cs < 10 ^ cs.length
  | [], _ => by decide
  | c :: cs, h => by
    have e := digitsVal_app [c] cs
    rw [List.singleton_append] at e
    have ih := digitsVal_lt h.tail
    have hc := h.head
    have e1 : digitsVal [c] = c - 48 := by show 0 * 10 + (c - 48) = c - 48; omega
    rw [e, e1, List.length_cons, Nat.pow_succ]
    have : (c - 48) * 10 ^ cs.length ≤ 9 * 10 ^ cs.length := Nat.mul_le_mul_right _ (by omega)
    omega
theorem AllDigits.app {a b : List Nat} (ha : AllDigits a) (hb : AllDigits b) : AllDigits (a ++ b) := fun c hc => (List.mem_append.mp hc).elim (ha c) (hb c)
theorem AllDigits.take {a : List Nat} (ha : AllDigits a) (k : Nat) : AllDigits (a.take k) := fun c hc => ha c (List.mem_of_mem_take hc)
theorem AllDigits.drop {a : List Nat} (ha : AllDigits a) (k : Nat) : AllDigits (a.drop k) := fun c hc => ha c (List.mem_of_mem_drop hc)
theorem take_chunk (l : List Nat) (i k : Nat) : l.take (i + k) = l.take i ++ (l.drop i).take k := List.take_add

/-! ### sizes -/
theorem ten_le (k : Nat) : 10 ^ k ≤ 2 ^ (4 * k) := by
  rw [Nat.pow_mul]
  exact Nat.pow_le_pow_left (by decide) k
theorem bits_of_lt {x : Int} {k : Nat} (h : x.natAbs < 10 ^ k) (hk : k ≤ 200000) : Builtin.Int.intBits x ≤ 2 ^ 20 := by
  refine intBits_le_iff.mpr (Nat.lt_of_lt_of_le h (Nat.le_trans (ten_le k) (Nat.pow_le_pow_right (by decide) ?_)))
  have : (2 : Nat) ^ 20 = 1048576 := by decide
  omega
theorem mulOk_of_lt {a b : Int} {j k : Nat} (ha : a.natAbs < 10 ^ j) (hj : j ≤ 200000) (hb : b.natAbs < 10 ^ k) (hk : k ≤ 200000) : IntMulOk a b :=
  IntMulOk.of_bits (bits_of_lt ha hj) (bits_of_lt hb hk)
theorem natAbs_ten (k : Nat) : ((10 : Int) ^ k).natAbs < 10 ^ (k + 1) := by
  rw [Int.natAbs_pow]
  exact Nat.pow_lt_pow_right (by decide) (by omega)

theorem fitsLong {a : Int} (h0 : -1 ≤ a) (h1 : a ≤ 1000000000) : Builtin.Range.rangeFitsLong a = true := by
  unfold Builtin.Range.rangeFitsLong
  rw [Bool.and_eq_true, decide_eq_true_eq, decide_eq_true_eq]
  constructor <;> omega
theorem small_1000 {b : Int} (h0 : 0 ≤ b) (h1 : b ≤ 1000000) : Builtin.Range.small 0 b 1000 = true := by
  have e : 0 ≤ Builtin.Range.rangeSize 0 b 1000 ∧ Builtin.Range.rangeSize 0 b 1000 ≤ 1000000 := by
    unfold Builtin.Range.rangeSize
    rw [if_pos (by decide)]
    split <;> omega
  unfold Builtin.Range.small
  rw [fitsLong (by omega) (by omega), fitsLong (by omega) (by omega), fitsLong (by omega) (by omega), fitsLong (by omega) (by omega), if_pos (by decide), fitsLong (by omega) (by omega)]
  simp

/-! ### texts glued -/
theorem cps_app (a b : Str) : (a ++ b).cps.toList = a.cps.toList ++ b.cps.toList := by rw [Str.cps_append, Array.toList_append]
theorem join_none (sep : Str) (hs : sep.cps.toList = []) : ∀ ys : List Str, (Txt.join sep ys).cps.toList = (ys.map fun y => y.cps.toList).flatten := by
  intro ys
  unfold Txt.join
  rw [StrLaws.glued_eq_join]
  induction ys with
  | nil => rfl
  | cons y r ih =>
    cases r with
    | nil => simp [Str.join]
    | cons z r =>
      show (y ++ sep ++ Str.join sep (z :: r)).cps.toList = _
      rw [cps_app, cps_app, hs, ih]
      simp
theorem StrsAre.rev' {vs : List Value} {xs : List Str} (h : StrsAre vs xs) : StrsAre vs.reverse xs.reverse := by
  induction h with
  | nil => exact .nil
  | cons y t _ ih =>
    rw [List.reverse_cons, List.reverse_cons]
    exact StrsAre.append' ih (.cons y t .nil)
theorem len_eq (x : Str) : x.length = x.cps.toList.length := Array.length_toList.symm
theorem sum_len (ys : List Str) : (ys.map (·.length)).sum = ((ys.map fun y => y.cps.toList).flatten).length := by
  induction ys with
  | nil => rfl
  | cons y r ih => rw [List.map_cons, List.sum_cons, List.map_cons, List.flatten_cons, List.length_append, ih, len_eq]

section
variable {prog : Program} {w : World} {A : Around} {E : Value → Shared → Prop} {s : Shared} {t : Tok}
theorem no_digits {h₀ h : Heap} {L : Addr} {m : Str → Option Value} {p : Program} {loose : List Str} {mean : ExcName → Option Value} {mg mb : Str → Option Value} (F : Fr h₀ L h m) (T : Top p loose mean mg mb h₀) : h.NoDigits :=
  Heap.NoDigits.keeps T.nodigits F.keep
end
end Mine
end
section
open PySem PySem.W PyProof.Rows PySem.Calls PyProof
namespace Mine
open PySem.NumText
/-- the figures of a number, as codes -/
def decL (n : Nat) : List Nat := (Nat.toDigits 10 n).map Char.toNat

theorem dig_code : ∀ d : Nat, d < 10 → (Nat.digitChar d).toNat = 48 + d := by decide
theorem decL_one {d : Nat} (h : d < 10) : decL d = [48 + d] := by
  unfold decL
  rw [Nat.toDigits_of_lt_base h]
  simp [dig_code d h]
theorem decL_step {m : Nat} (h : 10 ≤ m) : decL m = decL (m / 10) ++ [48 + m % 10] := by
  have hm : m % 10 < 10 := Nat.mod_lt m (by decide)
  have t : Nat.toDigits 10 (m / 10) ++ Nat.toDigits 10 (m % 10) = Nat.toDigits 10 (10 * (m / 10) + m % 10) := Nat.toDigits_append_toDigits (by decide) (by omega) hm
  rw [Nat.div_add_mod] at t
  rw [← decL_one hm]
  unfold decL
  rw [← t, List.map_append]
/-- the last k figures of a number -/
def padL : Nat → Nat → List Nat
  | 0, _ => []
  | k + 1, r => padL k (r / 10) ++ [48 + r % 10]
theorem padL_len : ∀ k r, (padL k r).length = k
  | 0, _ => rfl
  | k + 1, r => by simp [padL, padL_len k]
theorem decL_pad : ∀ (k m : Nat), 10 ^ k ≤ m → decL m = decL (m / 10 ^ k) ++ padL k m
  | 0, m, _ => by simp [padL]
  | k + 1, m, h => by
    have h1 : 10 ^ k ≤ m / 10 := by
      rw [Nat.pow_succ] at h
      exact (Nat.le_div_iff_mul_le (by decide)).mpr h
    have h2 : 0 < 10 ^ k := Nat.pow_pos (by decide)
    have h3 : 10 ≤ m := by
      rw [Nat.pow_succ] at h
      omega
    rw [decL_step h3, decL_pad k _ h1, Nat.div_div_eq_div_mul, Nat.pow_succ, Nat.mul_comm 10, List.append_assoc]
    rfl
theorem padL_mod : ∀ (k r : Nat), padL k r = padL k (r % 10 ^ k)
  | 0, _ => rfl
  | k + 1, r => by
    have h1 : r % 10 ^ (k + 1) / 10 = r / 10 % 10 ^ k := by
      rw [Nat.pow_succ, Nat.mul_comm, Nat.mod_mul_right_div_self]
    have h2 : r % 10 ^ (k + 1) % 10 = r % 10 := by
      rw [Nat.pow_succ, Nat.mul_comm]
      exact Nat.mod_mul_right_mod _ _ _
    show padL k (r / 10) ++ [48 + r % 10] = padL k (r % 10 ^ (k + 1) / 10) ++ [48 + r % 10 ^ (k + 1) % 10]
    rw [h1, h2, ← padL_mod k]
theorem padL_small : ∀ (k r : Nat), r < 10 ^ (k + 1) → padL (k + 1) r = List.replicate (k + 1 - (decL r).length) 48 ++ decL r ∧ (decL r).length ≤ k + 1
  | 0, r, h => by
    have h : r < 10 := by simpa using h
    rw [decL_one h]
    simp [padL, Nat.mod_eq_of_lt h]
  | k + 1, r, h => by
    by_cases h10 : r < 10
    · obtain ⟨i1, _⟩ := padL_small k 0 (Nat.pow_pos (by decide))
      show padL (k + 1) (r / 10) ++ [48 + r % 10] = _ ∧ _
      rw [Nat.div_eq_of_lt h10, i1, decL_one h10, decL_one (by decide), Nat.mod_eq_of_lt h10]
      refine ⟨?_, by simp⟩
      simp only [List.length_singleton, Nat.add_sub_cancel, Nat.add_zero]
      rw [← List.replicate_succ']
    · have hr : r / 10 < 10 ^ (k + 1) := by
        rw [Nat.pow_succ] at h
        exact Nat.div_lt_of_lt_mul (by rw [Nat.mul_comm]; exact h)
      obtain ⟨i1, i2⟩ := padL_small k (r / 10) hr
      show padL (k + 1) (r / 10) ++ [48 + r % 10] = _ ∧ _
      have e10 : decL r = decL (r / 10) ++ [48 + r % 10] := decL_step (by omega)
      rw [i1, e10, List.length_append, List.length_singleton]
      refine ⟨?_, by omega⟩
      rw [show k + 1 + 1 - ((decL (r / 10)).length + 1) = k + 1 - (decL (r / 10)).length by omega, List.append_assoc]
theorem decL_len {n k : Nat} (h : n < 10 ^ (k + 1)) : (decL n).length ≤ k + 1 := (padL_small k n h).2
theorem decL_digits (n : Nat) : AllDigits (decL n) := by
  intro c hc
  obtain ⟨ch, hch, e⟩ := List.mem_map.mp hc
  have r := digit_range (Nat.isDigit_of_mem_toDigits (by decide) (by decide) hch)
  rw [← e]
  exact r
theorem decL_val (n : Nat) : digitsVal (decL n) = n := KIN.val_back n
theorem decL_ne (n : Nat) : decL n ≠ [] := by
  intro e
  have h := toDigits_len_ge 10 n
  rw [List.map_eq_nil_iff.mp e] at h
  exact absurd h (by decide)
/-- a block of figures -/
theorem decL_block {m : Nat} (k : Nat) (h : 10 ^ (k + 1) ≤ m) : decL m = decL (m / 10 ^ (k + 1)) ++ (List.replicate (k + 1 - (decL (m % 10 ^ (k + 1))).length) 48 ++ decL (m % 10 ^ (k + 1))) := by
  rw [decL_pad (k + 1) m h, padL_mod (k + 1) m, (padL_small k _ (Nat.mod_lt _ (Nat.pow_pos (by decide)))).1]
theorem back_code : ∀ c : Nat, c < 58 → (Char.ofNat c).toNat = c := by decide
theorem decL_strip {cs : List Nat} (h : AllDigits cs) : decL (digitsVal cs) = if cs.dropWhile (· == 48) = [] then [48] else cs.dropWhile (· == 48) := by
  unfold decL
  rw [toDigits_all cs h]
  have hs : AllDigits (cs.dropWhile (· == 48)) := fun c hc => h c ((List.dropWhile_sublist _).mem hc)
  cases e : cs.dropWhile (· == 48) with
  | nil => rfl
  | cons c r =>
    rw [if_neg (by simp)]
    show ((c :: r).map Char.ofNat).map Char.toNat = c :: r
    rw [e] at hs
    rw [List.map_map]
    conv => rhs; rw [← List.map_id (c :: r)]
    refine List.map_congr_left fun d hd => ?_
    have := hs d hd
    exact back_code d (by omega)

section
variable {prog : Program} {w : World} {A : Around} {E : Value → Shared → Prop} {s : Shared} {t : Tok}
/-- str(n) of a great number -/
theorem str_big {a : Int} {n : Nat} {Q : Value → Shared → Prop} (e : a = (n : Int)) (hh : A.handled = none) (hg : s.heap.NoDigits) (hb : n < 10 ^ 4300)
    (h : ∀ y : Str, y.cps.toList = decL n → y.length = (decL n).length → y.length ≤ 4300 → Q (.str y s.toks) { s with toks := s.toks + 1 }) : wpAny (model prog w) A (call (.type "str") [.int a t]) Q E s := by
  subst e
  refine str_of_int_or hh hg (fun _ => ?_) (fun hge => ?_)
  · have e := KIN.signs_num n
    have el : (Str.ofString (toString ((n : Nat) : Int))).length = (decL n).length := by rw [len_eq, e]; rfl
    exact h _ e el (by rw [el]; exact decL_len (k := 4299) hb)
  · rw [Int.natAbs_natCast] at hge
    exact absurd hb (Nat.not_lt.mpr hge)

theorem one_sign {y : Str} {f : Nat} (hy : y.cps.toList = [f]) : y = ⟨#[f]⟩ := by
  obtain ⟨c⟩ := y
  congr 1
  exact Array.toList_inj.mp hy
theorem mul_sign {y : Str} {u : Tok} {f : Nat} {i : Int} {Q : Value → Shared → Prop} (hy : y.cps.toList = [f]) (h0 : 0 ≤ i) (h1 : i ≤ 1500)
    (h : ∀ z t' k, z.cps.toList = List.replicate i.toNat f → z.length = i.toNat → z.length ≤ 1500 → Q (.str z t') { s with toks := k }) : wpAny (model prog w) A (binaryOp .Mult (.str y t) (.int i u)) Q E s := by
  have e := one_sign hy
  subst e
  have e1 := mul_one_list f i
  have e2 : (Txt.mul ⟨#[f]⟩ i).length = i.toNat := by rw [len_eq, e1, List.length_replicate]
  exact SB.mul (mulOk_of 16 1048576 (show 1 ≤ 16 by decide) (by omega) (by omega) (by decide) (by decide)) fun t' k => h _ t' k e1 e2 (by omega)
end
/-- (10 ^ m - 1) // 9 -/
def rep : Nat → Nat
  | 0 => 0
  | m + 1 => 10 * rep m + 1
theorem rep_eq : ∀ m, 9 * rep m + 1 = 10 ^ m
  | 0 => rfl
  | m + 1 => by
    rw [Nat.pow_succ, ← rep_eq m, rep]
    omega
theorem rep_div (m : Nat) : ((10 : Int) ^ m - 1).fdiv 9 = (rep m : Int) := by
  have h := rep_eq m
  have h2 : ((10 : Int) ^ m) = ((10 ^ m : Nat) : Int) := by push_cast; rfl
  rw [h2, ← h, Int.fdiv_eq_ediv_of_nonneg _ (by decide)]
  push_cast
  omega
theorem digitsVal_rep (f : Nat) (hf : f < 10) : ∀ m, digitsVal (List.replicate m (48 + f)) = rep m * f
  | 0 => by simp [rep, digitsVal]
  | m + 1 => by
    rw [List.replicate_succ', digitsVal_app, digitsVal_rep f hf m, rep]
    have e : digitsVal [48 + f] = f := by show 0 * 10 + (48 + f - 48) = f; omega
    rw [e, List.length_singleton, Nat.pow_one, Nat.add_mul, Nat.one_mul, Nat.mul_comm 10 (rep m), Nat.mul_assoc, Nat.mul_assoc, Nat.mul_comm 10 f]
end Mine
end
section
open PySem PySem.W PyProof.Rows PySem.Calls
namespace Mine
open PySem.NumText (AllDigits digitsVal)
open PySem.NumText

theorem wp_max {M : Model} {A : Around} {E : Value → Shared → Prop} {s : Shared} {Q : Nat → Shared → Prop} (hg : s.heap.NoDigits) (h : Q 4300 s) : wpAny M A Builtin.intMaxStrDigits Q E s := by
  obtain ⟨mc, hns, hnone⟩ := hg
  unfold Builtin.intMaxStrDigits
  refine wpAny_bind (wpAny_nsGet hns ?_)
  rw [hnone]
  exact wpAny_pure h
/-- int(text) of a text of figures, up to the interpreter's own limit -/
theorem wp_digits {M : Model} {A : Around} {E : Value → Shared → Prop} {s : Shared} {Q : Value → Shared → Prop} {v : Value} {text : List Nat} {n : Int}
    (hs : ¬ (text.takeWhile (· != 0)).length ≤ 640) (hg : s.heap.NoDigits) (hr : (int_private% "readNumeral") 4300 10 (text.takeWhile (· != 0)) = (int_private% "Numeral.value") n)
    (ha : ((text.takeWhile (· != 0)).length == text.length) = true) (h : Q (.int n s.toks) { s with toks := s.toks + 1 }) :
    wpAny M A ((int_private% "intFromText") v text 10) Q E s := by
  obtain ⟨hp, g, d, tk, os⟩ := s
  repeat (any_goals (first
    | assumption
    | (with_reducible refine wpAny_ite_false (decide_eq_false hs) ?_)
    | (with_reducible refine wpAny_ite_true (decide_eq_true ha) ?_)
    | (with_reducible refine wp_max hg ?_)
    | wp_step))
  all_goals (try rw [hr])
  all_goals (try dsimp only)
  repeat (any_goals (first
    | assumption
    | (with_reducible refine wpAny_ite_true (decide_eq_true ha) ?_)
    | wp_step))

structure Hid (p : Prop) : Prop where
  out : p
set_option maxHeartbeats 4000000 in
theorem meets_text {x : PySem.Str} {u : Tok} {n : Int} (hb : ¬ (numSeenOf x).length ≤ 640) (hx : x.length ≤ sizeLine) (hn : PySem.intText? x = some n) :
    Meets (Builtin.«int.__new__» ⟨[.type "int", .str x u], []⟩) (fun _ R s => s.heap.NoDigits ∧ R (.ok (.ret (.int n s.toks))) { s with toks := s.toks + 1 }) :=
  .of_wp fun prog w A R s hq => by
    obtain ⟨hg, h⟩ := hq
    obtain ⟨hp, g, d, tk, os⟩ := s
    have f1 := F.conv_sub_int
    have f2 := F.madeHere_int
    have f3 := KIN.str_int
    have f4 := KIN.str_idx
    have f5 := KIN.str_trunc
    have f6 : typeOf (.str x u) = pure (.type "str") := rfl
    have hr : (int_private% "readNumeral") 4300 10 (numSeenOf x) = (int_private% "Numeral.value") n ∧ ((numSeenOf x).length == (numTextOf x).length) = true := by
      rcases read4300 x hx with ⟨m, h1, h2, h3⟩ | ⟨h1, _⟩
      · rw [hn] at h1
        injection h1 with h1
        subst h1
        exact ⟨h3, h2⟩
      · rw [hn] at h1
        cases h1
    have hk := Hid.mk (And.intro hb hr)
    clear hb hr hx hn
    repeat (any_goals (first
      | assumption
      | ((with_reducible show wpAny _ _ ((int_private% "intFromText") _ _ _) _ _ _); refine wp_digits hk.out.1 hg hk.out.2.1 hk.out.2.2 ?_)
      | wp_step))
    all_goals first | exact ⟨_, rfl, h⟩ | skip

section
variable {prog : Program} {w : World} {A : Around} {E : Value → Shared → Prop} {s : Shared} {Q : Value → Shared → Prop} {x : PySem.Str} {t : Tok}
theorem call_digits (hg : s.heap.NoDigits) (hd : AllDigits x.cps.toList) (hne : x.cps.toList ≠ []) (hl : x.length ≤ 4300) (h : Q (.int ((digitsVal x.cps.toList : Nat) : Int) s.toks) { s with toks := s.toks + 1 }) :
    wpAny (model prog w) A (call (.type "int") [.str x t]) Q E s := by
  have hn := intText_digits hd hne hl
  have e : numSeenOf x = x.cps.toList := (numText_signs fun c hc => Or.inr (hd c hc)).2
  have el : x.cps.toList.length = x.length := Array.length_toList
  by_cases hs : (numSeenOf x).length ≤ 640
  · exact KIN.call_text hn (by rw [e, el] at hs; exact hs) h
  · exact call_int_1 (meets_text hs (by rw [sizeLine_eq]; omega) hn) ⟨hg, rfl, h⟩
end
end Mine
end
section
open PySem PySem.W PyProof.Rows PySem.Calls PyProof.V PySem.Spec
namespace Mine
section
variable {prog : Program} {w : World} {A : Around} {E : Value → Shared → Prop} {s : Shared} {env : Env} {h₀ : Heap} {x : PySem.Str} {body : List Stmt} {Q : Flow → Shared → Prop}

/-- a for over any written-step range: a state of one's own over some names of the frame, the ledger as it stands -/
theorem range_state {σ : Type} {r : Addr} {a₀ b₀ c : Int} {t₀ u₀ v₀ : Tok} {n : Nat} {m₀ : PySem.Str → Option Value} {news : List (Addr × Obj)} (ps : σ → List (PySem.Str × Value)) (stored : List PySem.Str) (P : Nat → σ → Prop) (c₀ : σ)
    (hh : A.handled = none) (hr : IsRange s.heap r a₀ b₀ c t₀ u₀ v₀) (hsmall : Builtin.Range.small a₀ b₀ c = true) (hn : Builtin.Range.rangeSize a₀ b₀ c = (n : Int)) (F : Fr h₀ env.locals s.heap m₀) (N : News h₀ env.locals s.heap news)
    (hk : ∀ p ∈ ps c₀, m₀ p.1 = some p.2) (hp : P 0 c₀)
    (turn : ∀ (g : σ) (i : Nat) t (u : PySem.Str → Option Value) h tk own, i < n → OwnOff own (news.map (·.1)) → P i g →
      Fr h₀ env.locals h (fun y => if y = x then some (.int (a₀ + (i : Int) * c) t) else kstB (fun z => if stored.contains z then u z else m₀ z) (ps g) y) → News h₀ env.locals h (news ++ own) →
      wpAny (model prog w) A (execs body env) (InvPostN h₀ env.locals (KstS (fun _ => news) ps (fun _ => True) x stored m₀ (fun l g => P l.length g) (List.replicate (i + 1) 0)) own (news.map (·.1)) { s with heap := h, toks := tk } Q) E { s with heap := h, toks := tk })
    (done : ∀ (g : σ) (u : PySem.Str → Option Value) h tk, P n g → Fr h₀ env.locals h (fun y => if y = x then u y else kstB (fun z => if stored.contains z then u z else m₀ z) (ps g) y) → News h₀ env.locals h news → Q .next { s with heap := h, toks := tk }) :
    wpAny (model prog w) A (pyIter (.ref r)) (fun it s₂ => LoopAtV prog w A h₀ env x body Q E it s₂) E s := by
  refine wpAny_pyIter_range hr hsmall ?_
  have W : Walks prog w A s.heap.objs.size [s.heap.objs.size] [s.heap.objs.size] n (fun i v => i < n ∧ ∃ t, v = .int (a₀ + i * c) t)
      (fun i h => IsRangeIter h s.heap.objs.size (a₀ + (i : Nat) * c) ((n : Int) - (i : Nat)) c) := (Walks.range hh _ a₀ c n).bound
  refine loop_invN (fun i m nx => KstS (fun _ => news) ps (fun _ => True) x stored m₀ (fun l g => P l.length g) (List.replicate i 0) m nx) W ?_ ?_ ?_ ?_ (by show IsRangeIter _ _ _ _ _; rw [hn]; simpa using Heap.get?_push_size _ rfl) (F.push _) (fun p hp => ⟨Heap.get?_push_of_some _ (N p hp).1, (N p hp).2⟩) ⟨c₀, rfl, trivial, hk, fun _ _ _ _ => rfl, by simpa using hp⟩ ?_ ?_
  · intro hm
    exact absurd F.ns.lt ((List.mem_singleton.mp hm) ▸ Nat.lt_irrefl _)
  · intro b hb
    rw [List.mem_singleton.mp hb]
    exact next_is_new F
  · intro p hp hI
    exact absurd (Heap.lt_size (N p hp).1) ((List.mem_singleton.mp hI) ▸ Nat.lt_irrefl _)
  · intro p hp hI
    exact absurd (Heap.lt_size (N p hp).1) ((List.mem_singleton.mp hI) ▸ Nat.lt_irrefl _)
  · rintro i v m₁ nx h tk own hi ⟨_, t, rfl⟩ _ hoff ⟨g, rfl, _, h1, h2, hp'⟩ F₁ N₁
    exact turn g i t m₁ h tk own hi hoff (by simpa using hp') (kst_fr h1 h2 F₁) N₁
  · rintro m₁ nx h tk ⟨g, rfl, _, h1, h2, hp'⟩ F₁ N₁
    exact done g m₁ h tk (by simpa using hp') (kst_frOut h1 h2 F₁) N₁

/-- the same, the ledger turning with the state -/
theorem range_led {σ : Type} {r : Addr} {a₀ b₀ c : Int} {t₀ u₀ v₀ : Tok} {n : Nat} {m₀ : PySem.Str → Option Value} (Led : σ → List (Addr × Obj)) (ps : σ → List (PySem.Str × Value)) (stored : List PySem.Str) (P : Nat → σ → Prop) (c₀ : σ)
    (hh : A.handled = none) (hr : IsRange s.heap r a₀ b₀ c t₀ u₀ v₀) (hsmall : Builtin.Range.small a₀ b₀ c = true) (hn : Builtin.Range.rangeSize a₀ b₀ c = (n : Int)) (F : Fr h₀ env.locals s.heap m₀) (N : News h₀ env.locals s.heap (Led c₀))
    (hk : ∀ p ∈ ps c₀, m₀ p.1 = some p.2) (hp : P 0 c₀)
    (turn : ∀ (g : σ) (i : Nat) t (u : PySem.Str → Option Value) h tk own, i < n → OwnOff own ((Led c₀).map (·.1)) → P i g →
      Fr h₀ env.locals h (fun y => if y = x then some (.int (a₀ + (i : Int) * c) t) else kstB (fun z => if stored.contains z then u z else m₀ z) (ps g) y) → News h₀ env.locals h (Led g ++ own) →
      wpAny (model prog w) A (execs body env) (InvPostN h₀ env.locals (KstS Led ps (fun _ => True) x stored m₀ (fun l g => P l.length g) (List.replicate (i + 1) 0)) own ((Led c₀).map (·.1)) { s with heap := h, toks := tk } Q) E { s with heap := h, toks := tk })
    (done : ∀ (g : σ) (u : PySem.Str → Option Value) h tk, P n g → Fr h₀ env.locals h (fun y => if y = x then u y else kstB (fun z => if stored.contains z then u z else m₀ z) (ps g) y) → News h₀ env.locals h (Led g) → Q .next { s with heap := h, toks := tk }) :
    wpAny (model prog w) A (pyIter (.ref r)) (fun it s₂ => LoopAtV prog w A h₀ env x body Q E it s₂) E s := by
  refine wpAny_pyIter_range hr hsmall ?_
  have W : Walks prog w A s.heap.objs.size [s.heap.objs.size] [s.heap.objs.size] n (fun i v => i < n ∧ ∃ t, v = .int (a₀ + i * c) t)
      (fun i h => IsRangeIter h s.heap.objs.size (a₀ + (i : Nat) * c) ((n : Int) - (i : Nat)) c) := (Walks.range hh _ a₀ c n).bound
  refine loop_invN (fun i m nx => KstS Led ps (fun _ => True) x stored m₀ (fun l g => P l.length g) (List.replicate i 0) m nx) W ?_ ?_ ?_ ?_ (by show IsRangeIter _ _ _ _ _; rw [hn]; simpa using Heap.get?_push_size _ rfl) (F.push _) (fun p hp => ⟨Heap.get?_push_of_some _ (N p hp).1, (N p hp).2⟩) ⟨c₀, rfl, trivial, hk, fun _ _ _ _ => rfl, by simpa using hp⟩ ?_ ?_
  · intro hm
    exact absurd F.ns.lt ((List.mem_singleton.mp hm) ▸ Nat.lt_irrefl _)
  · intro b hb
    rw [List.mem_singleton.mp hb]
    exact next_is_new F
  · intro p hp hI
    exact absurd (Heap.lt_size (N p hp).1) ((List.mem_singleton.mp hI) ▸ Nat.lt_irrefl _)
  · intro p hp hI
    exact absurd (Heap.lt_size (N p hp).1) ((List.mem_singleton.mp hI) ▸ Nat.lt_irrefl _)
  · rintro i v m₁ nx h tk own hi ⟨_, t, rfl⟩ _ hoff ⟨g, rfl, _, h1, h2, hp'⟩ F₁ N₁
    exact turn g i t m₁ h tk own hi hoff (by simpa using hp') (kst_fr h1 h2 F₁) N₁
  · rintro m₁ nx h tk ⟨g, rfl, _, h1, h2, hp'⟩ F₁ N₁
    exact done g m₁ h tk (by simpa using hp') (kst_frOut h1 h2 F₁) N₁
end
end Mine
end
section
open PySem PySem.W PyProof.Rows PySem.Calls PyProof
namespace Mine
open PySem.NumText
theorem does_use {w : World} {mean : ExcName → Option Value} {mg mb : Str → Option Value} {f : Addr} {vs : List Value} {rm : Nat} {news : List (Addr × Obj)} {Post : Value → List (Addr × Obj) → Prop}
    {dp un : Nat} {gd : Option (List Code)} {cn : Str} {cs : Scope} {a : Addr} {ccd : Value} {cl : List (Str × Addr)} {outer : List Env} {A₀ : Around} {base h₀ : Heap} {L : Addr} {m : Str → Option Value} {s : Shared} {Q E : Value → Shared → Prop}
    (D : Does w mean mg mb f vs rm news Post) (B : Below A₀ base outer h₀) (F : Fr h₀ L s.heap m) (X : (Kw w.params).In h₀) (N : News h₀ L s.heap news) (T : Top vw (looseW vw [Str.ofString "ROUND"]) mean mg mb h₀) (hk : cs.kind = .function)
    (hd : dp + rm < recursionLimit) (hu : un + 8 * rm < cLine)
    (ret : ∀ v news' h' tk', Fr h₀ L h' m → News h₀ L h' news' → Post v news' → Q v { s with heap := h', toks := tk' }) :
    wpAny (model PySem.Challenge.rw_rg0208_01.row.prog w) (ktrTop dp un gd cn cs L a ccd cl outer) (call (.ref f) vs) Q E s :=
  D dp un gd cn cs a ccd cl outer A₀ base h₀ L m s Q E B F X N T hk hd hu ret

/-- the codes of a word that writes a whole number -/
def NumL (l : List Nat) (v : Int) : Prop := (AllDigits l ∧ l ≠ [] ∧ v = ((digitsVal l : Nat) : Int)) ∨ ∃ r, l = 45 :: r ∧ AllDigits r ∧ r ≠ [] ∧ v = -((digitsVal r : Nat) : Int)

theorem starts_one (x : Str) (c : Nat) : Txt.startswith x ⟨#[c]⟩ = decide (x.cps.toList.head? = some c) := by
  have hl := len_eq x
  unfold Txt.startswith
  rw [StrLaws.subAt_eq, hl]
  show (decide (0 + 1 ≤ x.cps.toList.length) && ((x.cps.toList.drop 0).take 1 == [c])) = _
  cases x.cps.toList with
  | nil => simp
  | cons d l => rw [Bool.eq_iff_iff]; simp
theorem minus_lit : Str.ofString "-" = ⟨#[45]⟩ := by decide +kernel
theorem numL_minus {x : Str} {v : Int} (h : NumL x.cps.toList v) (hs : Txt.startswith x (Str.ofString "-") = true) :
    AllDigits (Txt.slice x (some 1) none).cps.toList ∧ (Txt.slice x (some 1) none).cps.toList ≠ [] ∧ v = -((digitsVal (Txt.slice x (some 1) none).cps.toList : Nat) : Int) := by
  rw [minus_lit, starts_one, decide_eq_true_eq] at hs
  rcases h with ⟨h1, h2, _⟩ | ⟨r, e, h1, h2, h3⟩
  · cases e : x.cps.toList with
    | nil => exact absurd e h2
    | cons c l =>
      rw [e] at hs h1
      have := h1.head
      simp only [List.head?_cons, Option.some.injEq] at hs
      omega
  · have hl := len_eq x
    rw [e, List.length_cons] at hl
    rw [slice_tail (by decide) (by omega), e]
    exact ⟨h1, h2, h3⟩
theorem numL_plain {x : Str} {v : Int} (h : NumL x.cps.toList v) (hs : Txt.startswith x (Str.ofString "-") = false) :
    AllDigits x.cps.toList ∧ x.cps.toList ≠ [] ∧ v = ((digitsVal x.cps.toList : Nat) : Int) := by
  rw [minus_lit, starts_one, decide_eq_false_iff_not] at hs
  rcases h with h | ⟨r, e, _⟩
  · exact h
  · rw [e] at hs
    exact absurd rfl hs
end Mine
end
section
open PySem PySem.W PyProof.Rows
namespace Mine

def Barrel (w : World) (o : Obj) (c : Addr) (k : Int) : Prop :=
  ∃ t1 t2 t3, Obj.IsDictOf (PySem.strKind PySem.Challenge.rw_rg0208_01.row.prog w) o (strPairs [(Value.str (Str.ofString "cells") t1, Value.ref c), (Value.str (Str.ofString "at") t2, Value.int k t3)])

theorem fmod_in {a b : Int} (h : 0 < b) : 0 ≤ a.fmod b ∧ a.fmod b < b := by
  rw [Int.fmod_eq_emod_of_nonneg _ (by omega)]
  exact ⟨Int.emod_nonneg _ (by omega), Int.emod_lt_of_pos _ h⟩
local macro_rules | `(tactic| k_mem) => `(tactic| with_unfolding_all assumption)
local macro_rules | `(tactic| k_all) => `(tactic| assumption)
local macro_rules | `(tactic| is_list) => `(tactic| exact News.isList (by k_asm) (by k_mem))
set_option maxRecDepth 100000 in
set_option maxHeartbeats 8000000 in
theorem tap_does {w : World} {mean : ExcName → Option Value} {mg mb : Str → Option Value} {d c : Addr} {o : Obj} {ys : List Value} {ns : List Int} {k many : Int} {tm : Tok} {rest : List (Addr × Obj)}
    (hc : (c, LCg.lst ys) ∈ rest) (hi : IntsAre ys ns) (hlen : ns.length ≤ 30) (hne : ∀ p ∈ rest, p.1 ≠ d) (hsm : (d == sysModules) = false) (hB : Barrel w o c k) (k0 : 0 ≤ k) (k1 : k ≤ 100) (m0 : 1 ≤ many) (m1 : many ≤ 1500) :
    Does w mean mg mb 291 [.ref d, .int many tm] 2 ((d, o) :: rest) (fun v news' => ∃ r t o', v = .int r t ∧ 0 ≤ r ∧ r < many ∧ news' = (d, o') :: rest ∧ Barrel w o' c (k + 1)) := by
  k_with_none
  unfold Does
  k_fill
  obtain ⟨t1, t2, t3, hd⟩ := hB
  intro dp un gd cn cs a ccd cl outer A₀ base h₀ L m s Q E B F X N T hk hdp hun hret
  refine wpAny_call ?_
  k_dflt ktr_enter
  k_steps
  all_goals (
    (refine hret _ _ _ _ (by k_asm) (by k_asm) ⟨_, _, _, rfl, ?_, ?_, rfl, ?_⟩)
    · exact (fmod_in (by omega)).1
    · exact (fmod_in (by omega)).2
    · exact ⟨0, 0, _, by k_dflt assumption⟩)
end Mine
end
section
open PySem PySem.W PyProof.Rows PyProof
namespace Mine
open PySem.NumText (AllDigits digitsVal)

/-- what a turn of number_in's loop reads -/
theorem chunk_facts {x : Str} {i : Nat} (hd : AllDigits x.cps.toList) (hi : 1000 * i < x.length) :
    (Txt.slice x (some (0 + (i : Int) * 1000)) (some (0 + (i : Int) * 1000 + 1000))).cps.toList = (x.cps.toList.drop (1000 * i)).take 1000 ∧
    AllDigits (Txt.slice x (some (0 + (i : Int) * 1000)) (some (0 + (i : Int) * 1000 + 1000))).cps.toList ∧
    (Txt.slice x (some (0 + (i : Int) * 1000)) (some (0 + (i : Int) * 1000 + 1000))).cps.toList ≠ [] ∧
    (Txt.slice x (some (0 + (i : Int) * 1000)) (some (0 + (i : Int) * 1000 + 1000))).length ≤ 1000 := by
  have e : (Txt.slice x (some (0 + (i : Int) * 1000)) (some (0 + (i : Int) * 1000 + 1000))).cps.toList = (x.cps.toList.drop (1000 * i)).take 1000 := by
    rw [slice_mid (by omega) (by omega) (by omega)]
    congr 1
    · omega
    · congr 1; omega
  have hl : x.cps.toList.length = x.length := Array.length_toList
  refine ⟨e, by rw [e]; exact AllDigits.take (AllDigits.drop hd _) _, ?_, ?_⟩
  · rw [e]
    intro h
    have := congrArg List.length h
    simp only [List.length_take, List.length_drop, List.length_nil] at this
    omega
  · have h2 := congrArg List.length e
    simp only [List.length_take, List.length_drop] at h2
    have h3 : (Txt.slice x (some (0 + (i : Int) * 1000)) (some (0 + (i : Int) * 1000 + 1000))).cps.toList.length = (Txt.slice x (some (0 + (i : Int) * 1000)) (some (0 + (i : Int) * 1000 + 1000))).length := Array.length_toList
    omega

set_option maxRecDepth 100000 in
set_option maxHeartbeats 8000000 in
set_option pp.deepTerms false in
set_option pp.deepTerms.threshold 8 in
theorem number_in_does {w : World} {mean : ExcName → Option Value} {mg mb : Str → Option Value} {news : List (Addr × Obj)} {x : Str} {t : Tok}
    (hd : AllDigits x.cps.toList) (hx : x.length ≤ 10000) :
    Does w mean mg mb 92 [.str x t] 2 news (fun v news' => (∃ t, v = .int ((digitsVal x.cps.toList : Nat) : Int) t) ∧ news' = news) := by
  k_with_none
  k_with "binaryOp Mult int int" => ((with_reducible rename (∀ n : Nat, n ≤ 10000 → IntMulOk _ (10 ^ n)) => hmulZ); (with_reducible refine mul_int ?_ ?hm); (case hm => exact hmulZ _ (by omega)))
  k_with "call type:int" => (k_here; (with_reducible show wpAny _ _ (call (Value.type "int") [Value.str _ _]) _ _ _); (refine call_digits (Heap.NoDigits.keeps ?hg (Fr.keep (by assumption))) ?hd ?hne ?hl ?_); (case hg => exact Top.nodigits (by assumption)); (case hd => assumption); (case hne => assumption); (case hl => omega))
  unfold Does
  k_fill
  intro dp un gd cn cs a ccd cl outer A₀ base h₀ L m s Q E B F X N T hk hdp hun hret
  refine wpAny_call ?_
  k_dflt ktr_enter
  k_steps
  rename IsRange _ _ _ _ _ _ _ _ => rgX
  rename Fr _ _ _ _ => lF'
  rename News _ _ _ _ => lN'
  have hxl : x.cps.toList.length = x.length := Array.length_toList
  refine' range_state (n := (x.length + 999) / 1000) (fun g : Int × Tok => [(Str.ofString "found", Value.int g.1 g.2)]) [Str.ofString "k", Str.ofString "part", Str.ofString "found"]
    (fun i g => g.1 = ((digitsVal (x.cps.toList.take (1000 * i)) : Nat) : Int)) (0, _) rfl rgX ?hs ?hn lF' lN' ?hk ?hp ?turn ?done
  case hk => kst_all
  case hs => exact small_1000 (Int.natCast_nonneg _) (by omega)
  case hn =>
    unfold Builtin.Range.rangeSize
    simp
    omega
  case hp => simp [digitsVal]
  case turn =>
    intro g i t u h tk own hi hoff hP F' N'
    clear lF' lN' rgX
    have hi' : 1000 * i < x.length := by omega
    obtain ⟨hc1, hc2, hc3, hc4⟩ := chunk_facts hd hi'
    have hlt : digitsVal (x.cps.toList.take (1000 * i)) < 10 ^ 10000 := Nat.lt_of_lt_of_le (digitsVal_lt (AllDigits.take hd _)) (Nat.pow_le_pow_right (by decide) (by rw [List.length_take]; omega))
    have hmul : ∀ n : Nat, n ≤ 10000 → IntMulOk g.1 (10 ^ n) := fun n hn =>
      mulOk_of_lt (j := 10000) (k := 10001) (by rw [hP, Int.natAbs_natCast]; exact hlt) (by decide) (Nat.lt_of_lt_of_le (natAbs_ten n) (Nat.pow_le_pow_right (by decide) (by omega))) (by decide)
    clear hlt
    k_steps
    refine kst_end (_, _) (by assumption) (by assumption) (by kst_in) (by intro p hp; kst_mem) rfl trivial (by kst_all) (by intro z h1 h2 h3; simp only [List.contains_cons, List.contains_nil, Bool.or_false, Bool.or_eq_false_iff, beq_eq_false_iff_ne, ne_eq] at h3; simp [kstB, h1, h3]) ?_
    rw [List.length_replicate, hP, hc1, Int.toNat_natCast]
    have hc5 := congrArg List.length hc1
    have e2 : (Txt.slice x (some (0 + (i : Int) * 1000)) (some (0 + (i : Int) * 1000 + 1000))).length = ((x.cps.toList.drop (1000 * i)).take 1000).length := by rw [← hc5]; exact Array.length_toList.symm
    rw [e2, show 1000 * (i + 1) = 1000 * i + 1000 by omega, take_chunk, digitsVal_app]
    push_cast
    rfl
  case done =>
    intro g u h tk hP F' N'
    clear lF' lN' rgX
    k_steps
    refine hret _ _ _ _ (by k_asm) (by k_asm) ⟨⟨g.2, ?_⟩, rfl⟩
    rw [hP, List.take_of_length_le (by omega)]
end Mine
end
section
open PySem PySem.W PyProof.Rows PyProof
namespace Mine
open PySem.NumText (AllDigits digitsVal)
def RD : Nat := 10 ^ 1000
theorem round_lit : (10000000000000000000000000000000000000000000000000000000000000000000000000000000000000000000000000000000000000000000000000000000000000000000000000000000000000000000000000000000000000000000000000000000000000000000000000000000000000000000000000000000000000000000000000000000000000000000000000000000000000000000000000000000000000000000000000000000000000000000000000000000000000000000000000000000000000000000000000000000000000000000000000000000000000000000000000000000000000000000000000000000000000000000000000000000000000000000000000000000000000000000000000000000000000000000000000000000000000000000000000000000000000000000000000000000000000000000000000000000000000000000000000000000000000000000000000000000000000000000000000000000000000000000000000000000000000000000000000000000000000000000000000000000000000000000000000000000000000000000000000000000000000000000000000000000000000000000000000000000000000000000000000000000000000000000000000000000000000000000000000000000000000000000000000000000000000000 : Int) = (RD : Int) := by decide +kernel
theorem RD_pos : 0 < RD := Nat.pow_pos (by decide)
theorem big_intro {Q : Value → Shared → Prop} {v : Int} {t : Tok} {s : Shared} (h : ∀ R : Int, R = v → Q (.int R t) s) : Q (.int v t) s := h _ rfl

structure FigS where
  num : Nat
  tk : Tok
  vs : List Value
  xs : List Str
  cnt : Nat

theorem RD_facts (n : Nat) : ((n : Int).fmod 10000000000000000000000000000000000000000000000000000000000000000000000000000000000000000000000000000000000000000000000000000000000000000000000000000000000000000000000000000000000000000000000000000000000000000000000000000000000000000000000000000000000000000000000000000000000000000000000000000000000000000000000000000000000000000000000000000000000000000000000000000000000000000000000000000000000000000000000000000000000000000000000000000000000000000000000000000000000000000000000000000000000000000000000000000000000000000000000000000000000000000000000000000000000000000000000000000000000000000000000000000000000000000000000000000000000000000000000000000000000000000000000000000000000000000000000000000000000000000000000000000000000000000000000000000000000000000000000000000000000000000000000000000000000000000000000000000000000000000000000000000000000000000000000000000000000000000000000000000000000000000000000000000000000000000000000000000000000000000000000000000000000000000000000000000000000000000) = ((n % RD : Nat) : Int) ∧ ((n : Int).fdiv 10000000000000000000000000000000000000000000000000000000000000000000000000000000000000000000000000000000000000000000000000000000000000000000000000000000000000000000000000000000000000000000000000000000000000000000000000000000000000000000000000000000000000000000000000000000000000000000000000000000000000000000000000000000000000000000000000000000000000000000000000000000000000000000000000000000000000000000000000000000000000000000000000000000000000000000000000000000000000000000000000000000000000000000000000000000000000000000000000000000000000000000000000000000000000000000000000000000000000000000000000000000000000000000000000000000000000000000000000000000000000000000000000000000000000000000000000000000000000000000000000000000000000000000000000000000000000000000000000000000000000000000000000000000000000000000000000000000000000000000000000000000000000000000000000000000000000000000000000000000000000000000000000000000000000000000000000000000000000000000000000000000000000000000000000000000000000000) = ((n / RD : Nat) : Int) ∧ n % RD < 10 ^ 4300 := by
  rw [round_lit]
  refine ⟨?_, ?_, ?_⟩
  · rw [Int.fmod_eq_emod_of_nonneg _ (Int.natCast_nonneg _)]; exact (Int.natCast_emod _ _).symm
  · rw [Int.fdiv_eq_ediv_of_nonneg _ (Int.natCast_nonneg _)]; exact (Int.natCast_ediv _ _).symm
  · exact Nat.lt_of_lt_of_le (Nat.mod_lt _ RD_pos) (Nat.pow_le_pow_right (by decide) (by decide))
theorem RD_ge (n : Nat) : (10000000000000000000000000000000000000000000000000000000000000000000000000000000000000000000000000000000000000000000000000000000000000000000000000000000000000000000000000000000000000000000000000000000000000000000000000000000000000000000000000000000000000000000000000000000000000000000000000000000000000000000000000000000000000000000000000000000000000000000000000000000000000000000000000000000000000000000000000000000000000000000000000000000000000000000000000000000000000000000000000000000000000000000000000000000000000000000000000000000000000000000000000000000000000000000000000000000000000000000000000000000000000000000000000000000000000000000000000000000000000000000000000000000000000000000000000000000000000000000000000000000000000000000000000000000000000000000000000000000000000000000000000000000000000000000000000000000000000000000000000000000000000000000000000000000000000000000000000000000000000000000000000000000000000000000000000000000000000000000000000000000000000000000000000000000000000000 ≤ (n : Int)) ↔ RD ≤ n := by rw [round_lit]; exact Int.ofNat_le
theorem lt_round {n : Nat} (h : ¬ (10000000000000000000000000000000000000000000000000000000000000000000000000000000000000000000000000000000000000000000000000000000000000000000000000000000000000000000000000000000000000000000000000000000000000000000000000000000000000000000000000000000000000000000000000000000000000000000000000000000000000000000000000000000000000000000000000000000000000000000000000000000000000000000000000000000000000000000000000000000000000000000000000000000000000000000000000000000000000000000000000000000000000000000000000000000000000000000000000000000000000000000000000000000000000000000000000000000000000000000000000000000000000000000000000000000000000000000000000000000000000000000000000000000000000000000000000000000000000000000000000000000000000000000000000000000000000000000000000000000000000000000000000000000000000000000000000000000000000000000000000000000000000000000000000000000000000000000000000000000000000000000000000000000000000000000000000000000000000000000000000000000000000000000000000000000000000000 ≤ (n : Int))) : n < 10 ^ 4300 := by
  rw [RD_ge] at h
  exact Nat.lt_of_lt_of_le (Nat.lt_of_not_le h) (Nat.pow_le_pow_right (by decide) (by decide))
local macro_rules | `(tactic| k_all) => `(tactic| assumption)
set_option maxRecDepth 100000 in
set_option maxHeartbeats 8000000 in
set_option pp.deepTerms false in
set_option pp.deepTerms.threshold 8 in
theorem figures_of_does {w : World} {mean : ExcName → Option Value} {mg mb : Str → Option Value} {news : List (Addr × Obj)} {n : Nat} {t : Tok}
    (hn : n < 10 ^ 5000) :
    Does w mean mg mb 85 [.int (n : Int) t] 2 news (fun v news' => (∃ y t, v = .str y t ∧ y.cps.toList = decL n) ∧ news' = news) := by
  k_with_none
  k_with "call type:str" => (k_here; (with_reducible show wpAny _ _ (call (Value.type "str") [Value.int _ _]) _ _ _); (refine' str_big ?he rfl (no_digits ?hF ?hT) ?hb ?_); (case hF => assumption); (case hT => assumption); (case he => first | assumption | rfl); (case hb => first | assumption | exact lt_round (by assumption)); intro yZ hy1Z hy2Z hy3Z)
  k_with "exec While" => refine stop ?_
  unfold Does
  k_fill
  intro dp un gd cn cs a ccd cl outer A₀ base h₀ L m s Q E B F X N T hk hdp hun hret
  refine wpAny_call ?_
  k_dflt ktr_enter
  k_steps
  unfold Stop
  rename Fr _ _ _ _ => lF'
  rename News _ _ _ _ => lN'
  rename (∀ p ∈ news, _) => hlt
  have hne : ∀ p ∈ news, p.1 ≠ _ := fun p hp => Nat.ne_of_lt (hlt p hp)
  refine ksw_while (σ := FigS) (fun c => (_, W.listOf c.vs.toArray c.cnt) :: news) (fun c => [(Str.ofString "number", Value.int (c.num : Int) c.tk)]) (fun c => StrsAre c.vs c.xs) [Str.ofString "number", Str.ofString "text"]
    (fun c => decL n = decL c.num ++ (c.xs.reverse.map fun y => y.cps.toList).flatten ∧ c.xs.length ≤ (c.xs.reverse.map fun y => y.cps.toList).flatten.length) (fun c => c.num) ⟨n, t, [], [], 0⟩ lF' lN' .nil ?hk ?hp ?turn ?hE
  case hk => kst_all
  case hp => exact ⟨by simp, by simp⟩
  case hE => passes_own
  case turn =>
    intro c u h tk hf hP F' N'
    clear lF' lN'
    obtain ⟨hm1, hm2, hm3⟩ := RD_facts c.num
    have hl1 : (decL (c.num % RD)).length ≤ 1000 := decL_len (k := 999) (Nat.mod_lt _ RD_pos)
    have hvl : c.vs.length ≤ 5000 := by
      have h1 := StrsAre.length hf
      have h2 := congrArg List.length hP.1
      have h3 : (decL n).length ≤ 5000 := decL_len (k := 4999) hn
      rw [List.length_append] at h2
      have h4 := hP.2
      omega
    k_steps
    · rename Fr _ _ _ _ => fE
      rename News _ _ _ _ => nE
      rename Str => y
      rename (y.cps.toList = decL (c.num % RD)) => hy
      rename (_ ≤ (c.num : Int)) => hge
      rw [RD_ge] at hge
      rw [hm2] at fE
      simp only [List.push_toArray] at nE
      have hb : decL c.num = decL (c.num / RD) ++ (List.replicate (1000 - (decL (c.num % RD)).length) 48 ++ decL (c.num % RD)) := decL_block 999 hge
      have hyl : y.length = (decL (c.num % RD)).length := by rw [len_eq, hy]
      have e0 : (Txt.mul (Str.ofString "0") (1000 - (y.length : Int)) ++ y).cps.toList = List.replicate (1000 - (decL (c.num % RD)).length) 48 ++ decL (c.num % RD) := by
        rw [cps_app, hy, show Str.ofString "0" = ⟨#[48]⟩ from by decide +kernel, mul_one_list, show (1000 - (y.length : Int)).toNat = 1000 - (decL (c.num % RD)).length by omega]
      have e1 : (List.map (fun y : Str => y.cps.toList) (c.xs ++ [Txt.mul (Str.ofString "0") (1000 - (y.length : Int)) ++ y]).reverse).flatten = (List.replicate (1000 - (decL (c.num % RD)).length) 48 ++ decL (c.num % RD)) ++ (List.map (fun y : Str => y.cps.toList) c.xs.reverse).flatten := by
        rw [List.reverse_append, List.map_append, List.flatten_append]
        simp [e0]
      refine ksw_end (⟨c.num / RD, _, c.vs ++ [Value.str (Txt.mul (Str.ofString "0") (1000 - (y.length : Int)) ++ y) _], c.xs ++ [Txt.mul (Str.ofString "0") (1000 - (y.length : Int)) ++ y], c.cnt + 1⟩ : FigS) fE nE (fun p hp => hp) (StrsAre.append' hf (.cons _ _ .nil)) (by kst_all) ?hr ⟨?h1, ?h2⟩ ?hm
      case hr =>
        intro z h2 h3
        simp only [List.contains_cons, List.contains_nil, Bool.or_false, Bool.or_eq_false_iff, beq_eq_false_iff_ne, ne_eq] at h3
        simp [kstB, h3]
      case h1 =>
        show decL n = decL (c.num / RD) ++ (List.map (fun y : Str => y.cps.toList) (c.xs ++ [Txt.mul (Str.ofString "0") (1000 - (y.length : Int)) ++ y]).reverse).flatten
        rw [e1, ← List.append_assoc, ← hb]
        exact hP.1
      case h2 =>
        show (c.xs ++ [Txt.mul (Str.ofString "0") (1000 - (y.length : Int)) ++ y]).length ≤ _
        rw [e1, List.length_append, List.length_append, List.length_append, List.length_replicate]
        have := hP.2
        have h9 : (decL (c.num % RD)).length ≠ 0 := fun h => decL_ne _ (List.length_eq_zero_iff.mp h)
        simp only [List.length_singleton]
        omega
      case hm =>
        show c.num / RD < c.num
        refine Nat.div_lt_self (Nat.lt_of_lt_of_le RD_pos hge) ?_
        exact Nat.one_lt_pow (by decide) (by decide)
    · rename News _ _ _ _ => nE
      rename Str => y
      rename (y.cps.toList = decL c.num) => hy
      have e : ∀ v, (c.vs.toArray.push v).toList = c.vs ++ [v] := by simp
      have e1 : (List.map (fun y : Str => y.cps.toList) (c.xs ++ [y]).reverse).flatten = decL n := by
        rw [List.reverse_append, List.map_append, List.flatten_append, hP.1, ← hy]
        simp
      refine join_list (ys := (c.xs ++ [y]).reverse) (News.isList nE (.head _)) ?hi ?hok ?_
      case hi =>
        rw [krv_pick, e]
        exact StrsAre.rev' (StrsAre.append' hf (.cons y _ .nil))
      case hok =>
        rw [sum_len, e1, show (Str.ofString "").length = 0 from by decide +kernel]
        have h3 : (decL n).length ≤ 5000 := decL_len (k := 4999) hn
        omega
      intro t' k'
      k_steps
      refine hret _ news _ _ (by k_asm) (kst_newsOf (by k_asm) fun p hp => .tail _ (.tail _ hp)) ⟨⟨_, _, rfl, ?_⟩, rfl⟩
      rw [join_none _ (by decide +kernel), e1]
end Mine
end
section
open PySem PySem.W PyProof.Rows PyProof PySem.Calls
namespace Mine
open PySem.NumText (AllDigits digitsVal)

set_option maxRecDepth 100000 in
set_option maxHeartbeats 8000000 in
set_option pp.deepTerms false in
set_option pp.deepTerms.threshold 8 in
theorem number_from_does {w : World} {mean : ExcName → Option Value} {mg mb : Str → Option Value} {news : List (Addr × Obj)} {x : Str} {v : Int} {t : Tok}
    (hv : NumL x.cps.toList v) (hx : x.length ≤ 10000) :
    Does w mean mg mb 258 [.str x t] 4 news (fun r news' => (∃ t, r = .int v t) ∧ news' = news) := by
  k_with_none
  k_with "call builtin:str.startswith" => (k_here; (with_reducible show wpAny _ _ (call (Value.builtin "str.startswith") [Value.str _ _, Value.str _ _]) _ _ _); (refine SC.startswith ?_))
  k_with "call ref" => (k_here; (with_reducible show wpAny _ _ (call (Value.ref 92) [Value.str _ _]) _ _ _); k_dflt (refine' does_use (number_in_does ?hd ?hx) ?k1 ?k2 ?k3 ?k4 ?k5 ?kK ?kd ?ku ?_; (case k1 => k_asm); (case k2 => k_asm); (case k3 => k_asm); (case k4 => k_asm); (case k5 => k_asm); (case kK => exact rfl); (case hd => first | assumption | solve_by_elim); (case hx => first | assumption | omega); (case kd => ktr_room); (case ku => ktr_units)); intro v9Z news9Z h9Z tk9Z F9Z N9Z hp9Z; (obtain ⟨⟨t9Z, e9Z⟩, en9Z⟩ := hp9Z; subst e9Z en9Z); (try dsimp only); (try k_fold))
  have hT : Txt.startswith x (Str.ofString "-") = true → AllDigits (Txt.slice x (some 1) none).cps.toList := fun h => (numL_minus hv h).1
  have hF : Txt.startswith x (Str.ofString "-") = false → AllDigits x.cps.toList := fun h => (numL_plain hv h).1
  unfold Does
  k_fill
  intro dp un gd cn cs a ccd cl outer A₀ base h₀ L m s Q E B F X N T hk hdp hun hret
  refine wpAny_call ?_
  k_dflt ktr_enter
  k_steps
  · rename (Txt.startswith x _ = true) => hs
    refine' hret _ _ _ _ (by k_asm) (by k_asm) ⟨⟨_, ?e⟩, rfl⟩
    case e => rw [(numL_minus hv hs).2.2]
  · rename (Txt.startswith x _ = false) => hs
    refine' hret _ _ _ _ (by k_asm) (by k_asm) ⟨⟨_, ?e⟩, rfl⟩
    case e => rw [(numL_plain hv hs).2.2]
end Mine
end
section
open PySem PySem.W PyProof.Rows PyProof PySem.Calls PySem.Spec
namespace Mine
open PyProof.Rows.LCt PyProof.Rows.LCg
section
variable {prog : Program} {w : World} {A : Around} {E : Value → Shared → Prop} {s : Shared} {h₀ : Heap} {L : Addr} {m : PySem.Str → Option Value} {env : Env}

/-- one turn of a tested comprehension over a text's signs: the test is not met -/
def NoTurn (prog : Program) (w : World) (A : Around) (h₀ : Heap) (L : Addr) (m : PySem.Str → Option Value) (env : Env) (ct : PySem.Expr) (x : PySem.Str) (scope : Scope) (cl : List (PySem.Str × Addr)) (news : List (Addr × Obj)) (s : Shared) (c : Nat) : Prop :=
  ∀ u I oI C oC D m₂ h tk (E' : Value → Shared → Prop), NsObj oC m₂ → m₂ x = some (.str ⟨#[c]⟩ u) → Fr h₀ L h m → News h₀ L h ((I, oI) :: (C, oC) :: (D, lst []) :: news) →
    wpAny (model prog w) A (isTrue ct (compEnvC scope cl C env) (eval ct (compEnvC scope cl C env))) (fun ok s' => ok = false ∧ ∃ h' tk', s' = { s with heap := h', toks := tk' } ∧ Fr h₀ L h' m ∧ News h₀ L h' ((I, oI) :: (C, oC) :: (D, lst []) :: news)) E' { s with heap := h, toks := tk }

def StrSrcG (prog : Program) (w : World) (A : Around) (h₀ : Heap) (L : Addr) (m : PySem.Str → Option Value) (env : Env) (ct elt : PySem.Expr) (x : PySem.Str) (scope : Scope) (cl : List (PySem.Str × Addr)) (Q : Value → Shared → Prop) (xv : Value) (s₁ : Shared) : Prop :=
  ∃ tx t news, xv = .str tx t ∧ A.handled = none ∧ Fr h₀ L s₁.heap m ∧ News h₀ L s₁.heap news ∧ tx.cps.size ≤ sizeLine ∧
    ∀ s₂ : Shared, (∃ h, s₂ = { s₁ with heap := h }) → CompRestT prog w A h₀ L m env ct elt x scope cl s₂ (fun _ => True) (SignAt tx) (FinE h₀ L m s₂ Q) tx.cps.size 0 [] news
def StrSrc (prog : Program) (w : World) (A : Around) (h₀ : Heap) (L : Addr) (m : PySem.Str → Option Value) (env : Env) (ct : PySem.Expr) (x : PySem.Str) (scope : Scope) (cl : List (PySem.Str × Addr)) (Q : Value → Shared → Prop) (xv : Value) (s₁ : Shared) : Prop :=
  ∃ tx t news, xv = .str tx t ∧ A.handled = none ∧ Fr h₀ L s₁.heap m ∧ News h₀ L s₁.heap news ∧ tx.cps.size ≤ sizeLine ∧
    ∀ s₂ : Shared, (∃ h, s₂ = { s₁ with heap := h }) → (∀ c ∈ tx.cps.toList, NoTurn prog w A h₀ L m env ct x scope cl news s₂ c) ∧ FinE h₀ L m s₂ Q [] news

theorem rest_none {ct elt : PySem.Expr} {x : PySem.Str} {scope : Scope} {cl : List (PySem.Str × Addr)} {s₂ : Shared} {tx : PySem.Str} {news : List (Addr × Obj)} {Fin : List Value → List (Addr × Obj) → Prop}
    (hR : (∀ c ∈ tx.cps.toList, NoTurn prog w A h₀ L m env ct x scope cl news s₂ c) ∧ Fin [] news) :
    ∀ k i, i + k = tx.cps.size → CompRestT prog w A h₀ L m env ct elt x scope cl s₂ (fun _ => True) (SignAt tx) Fin k i [] news
  | 0, _, _ => CompRestT.zero hR.2
  | k + 1, i, e => CompRestT.succ fun v I oI C oC D m₂ h tk E' hP hns hx F N off _ => by
    obtain ⟨c, u, hc, rfl⟩ := hP
    have hm : c ∈ tx.cps.toList := by
      have := Array.mem_of_getElem? hc
      exact Array.mem_toList_iff.mpr this
    refine wpAny_mono (hR.1 c hm u I oI C oC D m₂ h tk E' hns hx F N) (fun ok s' h' => ?_) fun _ _ x => x
    obtain ⟨rfl, h', tk', rfl, F', N'⟩ := h'
    rw [if_neg (by decide)]
    exact ⟨h', tk', news, rfl, F', N', off, trivial, rest_none hR k (i + 1) (by omega)⟩

theorem ListComp_strG {ct elt iter : PySem.Expr} {x : PySem.Str} {px : Pos} {scope : Scope} {cl : List (PySem.Str × Addr)} {pos : Pos} {Q : Value → Shared → Prop} (F₀ : Fr h₀ L s.heap m)
    (hclos : closureFor scope env = pure cl) (hcell : ∀ y ∈ scope.names, y.2 ≠ .cell) (hkind : scope.kind = .function)
    (hnames : ∀ y ∈ scope.names, y.2 = .local → scope.names.lookup y.1 = some .local) (hx : scope.names.lookup x = some .local)
    (h : wpAny (model prog w) A (eval iter env) (StrSrcG prog w A h₀ L m env ct elt x scope cl Q) E s)
    (hs : ∀ x, foldedSetIterable iter env x = pure x := by intro _; rfl) :
    wpAny (model prog w) A (eval (.ListComp elt [⟨.Name x px, iter, [ct], 0⟩] scope pos) env) Q E s := by
  rw [eval_ListComp]
  refine wpAny_comprehension_free (use := none) rfl hs hclos hkind hnames (wpAny_mono h (fun xv s₁ h₁ => ?_) fun _ _ e => e)
  obtain ⟨tx, t, news, rfl, hh, F, N, hsz, R⟩ := h₁
  cases ha : tx.cps.all (· < 128)
  · refine wpAny_pyIter_wide ha ?_
    refine block_T (Walks.strWide hh _ tx t) hsz (fun i h st => let ⟨o, e, _⟩ := st; ⟨o, e⟩) (fun i h h' o nw st e e' _ _ _ => let ⟨o', f, r⟩ := st; ⟨o', by rw [e] at f; cases f; exact e', r⟩) hcell hkind hx ⟨_, Heap.get?_push_size _ rfl, rfl, rfl⟩ (fun b hb => ?_)
      (F.keeps fun _ _ e => Heap.get?_push_of_some _ e) (N.grown fun _ _ e => Heap.get?_push_of_some _ e) (Nat.ne_of_lt F.ns.lt) (next_is_new F) (fun p hp => Nat.ne_of_lt (Heap.lt_size (N p hp).1)) trivial
      (R _ ⟨_, rfl⟩) ?_
    · rw [List.mem_singleton.mp hb]
      show s₁.heap.objs.size < (s₁.heap.push _).objs.size
      rw [Heap.size_push]; exact Nat.lt_succ_self _
    · intro D C h tk m' ys news' F' N' o1 hn hC₀ hD₀ hCL hDL hCD offC fin
      refine ⟨m', hn, fun h'' hs'' => fin D h'' tk (F'.change hs'' hCL hC₀) (fun p hp => ?_) o1⟩
      refine ⟨hs''.extBut _ _ ?_ (N' p hp).1, (N' p hp).2⟩
      rcases List.mem_cons.mp hp with rfl | hp
      · exact Ne.symm hCD
      · exact offC p hp
  · refine wpAny_pyIter_ascii ha ?_
    refine block_T (Walks.strAscii hh _ tx t) hsz (fun i h st => let ⟨o, e, _⟩ := st; ⟨o, e⟩) (fun i h h' o nw st e e' _ _ _ => let ⟨o', f, r⟩ := st; ⟨o', by rw [e] at f; cases f; exact e', r⟩) hcell hkind hx ⟨_, Heap.get?_push_size _ rfl, rfl, rfl⟩ (fun b hb => ?_)
      (F.keeps fun _ _ e => Heap.get?_push_of_some _ e) (N.grown fun _ _ e => Heap.get?_push_of_some _ e) (Nat.ne_of_lt F.ns.lt) (next_is_new F) (fun p hp => Nat.ne_of_lt (Heap.lt_size (N p hp).1)) trivial
      (R _ ⟨_, rfl⟩) ?_
    · rw [List.mem_singleton.mp hb]
      show s₁.heap.objs.size < (s₁.heap.push _).objs.size
      rw [Heap.size_push]; exact Nat.lt_succ_self _
    · intro D C h tk m' ys news' F' N' o1 hn hC₀ hD₀ hCL hDL hCD offC fin
      refine ⟨m', hn, fun h'' hs'' => fin D h'' tk (F'.change hs'' hCL hC₀) (fun p hp => ?_) o1⟩
      refine ⟨hs''.extBut _ _ ?_ (N' p hp).1, (N' p hp).2⟩
      rcases List.mem_cons.mp hp with rfl | hp
      · exact Ne.symm hCD
      · exact offC p hp
theorem ListComp_none {ct elt iter : PySem.Expr} {x : PySem.Str} {px : Pos} {scope : Scope} {cl : List (PySem.Str × Addr)} {pos : Pos} {Q : Value → Shared → Prop} (F₀ : Fr h₀ L s.heap m)
    (hclos : closureFor scope env = pure cl) (hcell : ∀ y ∈ scope.names, y.2 ≠ .cell) (hkind : scope.kind = .function)
    (hnames : ∀ y ∈ scope.names, y.2 = .local → scope.names.lookup y.1 = some .local) (hx : scope.names.lookup x = some .local)
    (h : wpAny (model prog w) A (eval iter env) (StrSrc prog w A h₀ L m env ct x scope cl Q) E s)
    (hs : ∀ x, foldedSetIterable iter env x = pure x := by intro _; rfl) :
    wpAny (model prog w) A (eval (.ListComp elt [⟨.Name x px, iter, [ct], 0⟩] scope pos) env) Q E s :=
  ListComp_strG F₀ hclos hcell hkind hnames hx (wpAny_mono h (fun _ _ ⟨tx, t, news, e, hh, F, N, hsz, R⟩ => ⟨tx, t, news, e, hh, F, N, hsz, fun s₂ h₂ => rest_none (R s₂ h₂) _ 0 (Nat.zero_add _)⟩) fun _ _ e => e) hs
end
end Mine
end
section
open PySem PySem.W PyProof.Rows PyProof PySem.Calls
namespace Mine
open PySem.NumText (AllDigits digitsVal)

theorem digit_in {c : Nat} (h : 48 ≤ c ∧ c ≤ 57) : (!!(Builtin.Str.occurrences (Str.ofString "0123456789") { cps := #[c] } 0 (Str.ofString "0123456789").length 1).isEmpty) = false :=
  (by decide +kernel : ∀ c, c < 58 → 48 ≤ c → (!!(Builtin.Str.occurrences (Str.ofString "0123456789") { cps := #[c] } 0 (Str.ofString "0123456789").length 1).isEmpty) = false) c (by omega) h.1
set_option maxRecDepth 100000 in
set_option maxHeartbeats 8000000 in
set_option pp.deepTerms false in
set_option pp.deepTerms.threshold 8 in
theorem is_number_does {w : World} {mean : ExcName → Option Value} {mg mb : Str → Option Value} {news : List (Addr × Obj)} {x : Str} {v : Int} {t : Tok}
    (hv : NumL x.cps.toList v) (hx : x.length ≤ 10000) :
    Does w mean mg mb 251 [.str x t] 4 news (fun r news' => r = .bool true ∧ news' = news) := by
  k_with_none
  k_with "call builtin:str.startswith" => (k_here; (with_reducible show wpAny _ _ (call (Value.builtin "str.startswith") [Value.str _ _, Value.str _ _]) _ _ _); (refine SC.startswith ?_))
  k_with "eval ListComp" => (k_here; k_dflt (refine ListComp_none (F₀ := by k_asm) (by with_unfolding_all rfl) (by decide) (by rfl) (by decide) (by rfl) ?_))
  unfold Does
  k_fill
  intro dp un gd cn cs a ccd cl outer A₀ base h₀ L m s Q E B F X N T hk hdp hun hret
  refine wpAny_call ?_
  k_dflt ktr_enter
  have hT : Txt.startswith x (Str.ofString "-") = true → AllDigits (Txt.slice x (some 1) none).cps.toList ∧ 0 < (Txt.slice x (some 1) none).length := fun h =>
    ⟨(numL_minus hv h).1, by rw [len_eq]; exact List.length_pos_iff.mpr (numL_minus hv h).2.1⟩
  have hF : Txt.startswith x (Str.ofString "-") = false → AllDigits x.cps.toList ∧ 0 < x.length := fun h =>
    ⟨(numL_plain hv h).1, by rw [len_eq]; exact List.length_pos_iff.mpr (numL_plain hv h).2.1⟩
  k_steps
  · rename (Txt.startswith x _ = true) => hs
    obtain ⟨hd, hp⟩ := hT hs
    refine ⟨_, _, _, rfl, rfl, by k_asm, by k_asm, ?_, fun s₂ h₂ => ⟨fun c hc => ?_, ?_⟩⟩
    · have h1 := PyProof.Txt.length_slice_le x (some 1) none
      show (Txt.slice x (some 1) none).length ≤ _
      rw [sizeLine_eq]; omega
    · intro u I oI C oC D m₂ h tk E' hns hx F' N'
      obtain ⟨h₂, rfl⟩ := h₂
      k_steps
      · exact digit_in (hd c hc)
      all_goals assumption
    · obtain ⟨h₂, rfl⟩ := h₂
      k_steps
      exact hret _ news _ _ (by k_asm) (kst_newsOf (by k_asm) fun p hp => .tail _ hp) ⟨rfl, rfl⟩
  · rename (Txt.startswith x _ = true) => hs
    obtain ⟨hd, hp⟩ := hT hs
    omega
  · rename (Txt.startswith x _ = false) => hs
    obtain ⟨hd, hp⟩ := hF hs
    refine ⟨_, _, _, rfl, rfl, by k_asm, by k_asm, ?_, fun s₂ h₂ => ⟨fun c hc => ?_, ?_⟩⟩
    · show x.length ≤ _
      rw [sizeLine_eq]; omega
    · intro u I oI C oC D m₂ h tk E' hns hx F' N'
      obtain ⟨h₂, rfl⟩ := h₂
      k_steps
      · exact digit_in (hd c hc)
      all_goals assumption
    · obtain ⟨h₂, rfl⟩ := h₂
      k_steps
      exact hret _ news _ _ (by k_asm) (kst_newsOf (by k_asm) fun p hp => .tail _ hp) ⟨rfl, rfl⟩
  · rename (Txt.startswith x _ = false) => hs
    obtain ⟨hd, hp⟩ := hF hs
    omega
end Mine
end
section
open PySem PySem.W PyProof.Rows PyProof PySem.Calls
namespace Mine
open PyProof.Rows.LCt PyProof.Rows.LCg
theorem sign_at {i : Nat} {v : Value} {x : Str} {c : Nat} (h : SignAt x i v) (e : x.cps[i]? = some c) : ∃ u, v = .str ⟨#[c]⟩ u := by
  obtain ⟨d, u, hd, rfl⟩ := h
  rw [e] at hd
  cases hd
  exact ⟨u, rfl⟩
set_option maxRecDepth 100000 in
set_option maxHeartbeats 8000000 in
set_option pp.deepTerms false in
set_option pp.deepTerms.threshold 8 in
theorem is_number_word {w : World} {mean : ExcName → Option Value} {mg mb : Str → Option Value} {news : List (Addr × Obj)} {t : Tok} :
    Does w mean mg mb 251 [.str (Str.ofString "word") t] 4 news (fun r news' => r = .bool false ∧ news' = news) := by
  k_with_none
  k_with "eval ListComp" => (k_here; k_dflt (refine ListComp_strG (F₀ := by k_asm) (by with_unfolding_all rfl) (by decide) (by rfl) (by decide) (by rfl) ?_))
  unfold Does
  k_fill
  intro dp un gd cn cs a ccd cl outer A₀ base h₀ L m s Q E B F X N T hk hdp hun hret
  refine wpAny_call ?_
  k_dflt ktr_enter
  k_steps
  refine ⟨_, _, _, rfl, rfl, by k_asm, by k_asm, by decide +kernel, fun s₂ h₂ => ?_⟩
  obtain ⟨h₂, rfl⟩ := h₂
  rw [show (Str.ofString "word").cps.size = 4 from by decide +kernel]
  refine CompRestT.succ fun v I oI C oC D m₂ h0 tk0 E' hP hns hx F0 N0 off hne => ?_
  obtain ⟨u, rfl⟩ := sign_at (c := 119) hP (by decide +kernel)
  k_steps
  rotate_left
  · exact absurd ‹_ = false› (by decide +kernel)
  refine ⟨_, _, news, rfl, by k_asm, by k_asm, off, trivial, ?_⟩
  clear hns hx hP hne off
  refine CompRestT.succ fun v I oI C oC D m₂ h1 tk1 E' hP hns hx F1 N1 off hne => ?_
  obtain ⟨u, rfl⟩ := sign_at (c := 111) hP (by decide +kernel)
  k_steps
  rotate_left
  · exact absurd ‹_ = false› (by decide +kernel)
  refine ⟨_, _, news, rfl, by k_asm, by k_asm, off, trivial, ?_⟩
  clear hns hx hP hne off
  refine CompRestT.succ fun v I oI C oC D m₂ h2 tk2 E' hP hns hx F2 N2 off hne => ?_
  obtain ⟨u, rfl⟩ := sign_at (c := 114) hP (by decide +kernel)
  k_steps
  rotate_left
  · exact absurd ‹_ = false› (by decide +kernel)
  refine ⟨_, _, news, rfl, by k_asm, by k_asm, off, trivial, ?_⟩
  clear hns hx hP hne off
  refine CompRestT.succ fun v I oI C oC D m₂ h3 tk3 E' hP hns hx F3 N3 off hne => ?_
  obtain ⟨u, rfl⟩ := sign_at (c := 100) hP (by decide +kernel)
  k_steps
  rotate_left
  · exact absurd ‹_ = false› (by decide +kernel)
  refine ⟨_, _, news, rfl, by k_asm, by k_asm, off, trivial, ?_⟩
  clear hns hx hP hne off
  refine CompRestT.zero ?_
  k_steps
  exact hret _ news _ _ (by k_asm) (kst_newsOf (by k_asm) fun p hp => .tail _ hp) ⟨rfl, rfl⟩
end Mine
end
section
open PySem PySem.W PyProof.Rows PyProof PySem.Calls
namespace Mine
open PySem.NumText (AllDigits digitsVal)
structure RowS where
  text : Str
  tt : Tok
  val : Int
  vt : Tok
  o : Obj
  k : Int

theorem small_big : 10 ≤ 10 ^ 4300 := Nat.le_trans (show 10 ≤ 10 ^ 1 by decide) (Nat.pow_le_pow_right (by decide) (by decide))
theorem dec_one {y : Str} {r : Int} (h : y.cps.toList = decL r.toNat) (hr : r < 10) : y.cps.toList = [48 + r.toNat] := by rw [h, decL_one (by omega)]
local macro_rules | `(tactic| k_mem) => `(tactic| with_unfolding_all assumption)
local macro_rules | `(tactic| k_all) => `(tactic| assumption)
local macro_rules | `(tactic| walk_at "pyIter ref") => `(tactic| refine stop ?_)
set_option maxRecDepth 100000 in
set_option maxHeartbeats 8000000 in
set_option pp.deepTerms false in
set_option pp.deepTerms.threshold 8 in
theorem law_row_does {w : World} {mean : ExcName → Option Value} {mg mb : Str → Option Value} {d c : Addr} {o : Obj} {ys : List Value} {ns : List Int} {k : Int} {rest : List (Addr × Obj)}
    (hc : (c, LCg.lst ys) ∈ rest) (hi : IntsAre ys ns) (hlen : ns.length ≤ 30) (hne : ∀ p ∈ rest, p.1 ≠ d) (hsm : (d == sysModules) = false) (hB : Barrel w o c k) (k0 : 0 ≤ k) (k1 : k ≤ 50) :
    Does w mean mg mb 298 [.ref d] 6 ((d, o) :: rest) (fun v news' => ∃ D text tt val vt o' k' n, v = .ref D ∧ news' = (D, ({ cls := .type "tuple", data := .seq #[.str text tt, .int val vt] n } : Obj)) :: (d, o') :: rest ∧ (∀ p ∈ (d, o') :: rest, p.1 < D) ∧
      AllDigits text.cps.toList ∧ text.cps.toList ≠ [] ∧ text.length ≤ 4500 ∧ val = ((digitsVal text.cps.toList : Nat) : Int) ∧ Barrel w o' c k' ∧ k ≤ k' ∧ k' ≤ k + 7) := by
  k_with_none
  k_with "call ref" => (k_here; (with_reducible show wpAny _ _ (call (Value.ref 291) [Value.ref _, Value.int _ _]) _ _ _); k_dflt (refine' does_use (tap_does ?hc ?hi ?hl ?hn ?hs ?hB ?g0 ?g1 ?g2 ?g3) ?k1 ?k2 ?k3 ?k4 ?k5 ?kK ?kd ?ku ?_; (case k4 => first | k_asm | exact kst_newsOf (by assumption) (fun p hp => .tail _ hp) | exact kst_newsOf (by assumption) (fun p hp => .tail _ (.tail _ hp))); (case k1 => k_asm); (case k2 => k_asm); (case k3 => k_asm); (case k5 => k_asm); (case kK => exact rfl); (case hc => assumption); (case hi => assumption); (case hl => assumption); (case hn => assumption); (case hs => assumption); (case hB => assumption); (case g0 => omega); (case g1 => omega); (case g2 => omega); (case g3 => omega); (case kd => ktr_room); (case ku => ktr_units)); intro v9Z news9Z h9Z tk9Z F9Z N9Z hp9Z; (obtain ⟨r9Z, t9Z, o9Z, e9Z, lo9Z, hi9Z, en9Z, B9Z⟩ := hp9Z; subst e9Z en9Z); (try dsimp only); (try k_fold))
  k_with "call type:str" => (k_here; (with_reducible show wpAny _ _ (call (Value.type "str") [Value.int _ _]) _ _ _); (refine' str_big (n := Int.toNat _) (Int.toNat_of_nonneg (by assumption)).symm rfl (no_digits ?hF ?hT) ?hb ?_); (case hF => assumption); (case hT => assumption); (case hb => exact Nat.lt_of_lt_of_le (m := 10) (by omega) small_big); intro yZ hy1Z hy2Z hy3Z)
  k_with "binaryOp Mult str int" => (k_here; (refine' mul_sign ?hy ?h0 ?h1 ?_); (case hy => exact dec_one (by assumption) (by omega)); (case h0 => omega); (case h1 => omega); intro zZ tzZ kzZ hz1Z hz2Z hz3Z)
  k_with "binaryOp Mult int int" => ((with_reducible rename (∀ n : Nat, n ≤ 10000 → IntMulOk _ (10 ^ n)) => hmulZ); (with_reducible refine mul_int ?_ ?hm); (case hm => exact hmulZ _ (by omega)))
  unfold Does
  k_fill
  intro dp un gd cn cs a ccd cl outer A₀ base h₀ L m s Q E B F X N T hk hdp hun hret
  refine wpAny_call ?_
  k_dflt ktr_enter
  k_steps
  unfold Stop
  rename IsRange _ _ _ _ _ _ _ _ => rgX
  rename Fr _ _ _ _ => lF'
  rename News _ _ _ _ => lN'
  rename Barrel w _ c (k + 1) => hB1
  rename (0 ≤ _) => lo
  rename Int => laps
  refine' range_led (σ := RowS) (n := (1 + laps).toNat) (fun g => (d, g.o) :: rest) (fun g => [(Str.ofString "text", Value.str g.text g.tt), (Str.ofString "value", Value.int g.val g.vt)])
    [Str.ofString "lap", Str.ofString "many", Str.ofString "figure", Str.ofString "text", Str.ofString "value"]
    (fun i g => AllDigits g.text.cps.toList ∧ i ≤ g.text.length ∧ g.text.length ≤ 1500 * i ∧ g.val = ((digitsVal g.text.cps.toList : Nat) : Int) ∧ Barrel w g.o c g.k ∧ k + 1 ≤ g.k ∧ g.k ≤ k + 1 + 2 * i)
    ⟨Str.ofString "", _, 0, _, _, k + 1⟩ rfl rgX ?hs ?hn lF' lN' ?hk ?hp ?turn ?done
  case hk => kst_all
  case hs => exact small_one (by decide) (by decide) (by omega) (by omega)
  case hn =>
    unfold Builtin.Range.rangeSize
    simp
    omega
  case hp =>
    have e : (Str.ofString "").cps.toList = [] := by decide +kernel
    refine ⟨?_, Nat.zero_le _, ?_, ?_, hB1, Int.le_refl _, ?_⟩
    · show AllDigits (Str.ofString "").cps.toList
      rw [e]
      exact fun _ h => nomatch h
    · show (Str.ofString "").length ≤ 1500 * 0
      decide +kernel
    · show (0 : Int) = ((digitsVal (Str.ofString "").cps.toList : Nat) : Int)
      decide +kernel
    · show k + 1 ≤ k + 1 + 2 * ((0 : Nat) : Int)
      omega
  case turn =>
    intro g i t u h tk own hi' hoff hP F' N'
    clear lF' lN' rgX
    obtain ⟨hg1, hg2, hg3, hg4, hg5, hg6, hg7⟩ := hP
    have N2 : News _ _ h ((d, g.o) :: (rest ++ own)) := N'
    clear N'
    have hc' : (c, LCg.lst ys) ∈ rest ++ own := List.mem_append_left _ hc
    have hne' : ∀ p ∈ rest ++ own, p.1 ≠ d := fun p hp => (List.mem_append.mp hp).elim (hne p) fun h => hoff p h d (.head _)
    have hmul : ∀ n : Nat, n ≤ 10000 → IntMulOk g.val (10 ^ n) := fun n hn => mulOk_of_lt (j := 10000) (k := 10001) (by
      rw [hg4, Int.natAbs_natCast]
      exact Nat.lt_of_lt_of_le (digitsVal_lt hg1) (Nat.pow_le_pow_right (by decide) (by rw [← len_eq]; omega))) (by decide) (Nat.lt_of_lt_of_le (natAbs_ten n) (Nat.pow_le_pow_right (by decide) (by omega))) (by decide)
    k_steps
    rename Barrel w _ c (g.k + 1 + 1) => hBe
    rename Obj => oe
    rename Str => z
    rename (z.length ≤ 1500) => hz3
    rename (z.length = _) => hz2
    rename (z.cps.toList = List.replicate _ _) => hz1
    refine' kst_end (⟨_, _, _, _, oe, g.k + 1 + 1⟩ : RowS) (by assumption) (by assumption) ?en ?eo rfl trivial ?ek ?es ?ep
    case ek => kst_all
    case en =>
      intro p hp
      rcases List.mem_cons.mp hp with rfl | hp
      · exact .tail _ (.tail _ (.head _))
      · exact .tail _ (.tail _ (.tail _ (List.mem_append_left _ hp)))
    case eo => exact fun p hp => .tail _ (.tail _ (.tail _ (List.mem_append_right _ hp)))
    case es =>
      intro z h1 h2 h3
      simp only [List.contains_cons, List.contains_nil, Bool.or_false, Bool.or_eq_false_iff, beq_eq_false_iff_ne, ne_eq] at h3
      simp [kstB, h1, h3]
    case ep =>
      rw [List.length_replicate]
      refine ⟨?_, ?_, ?_, ?_, hBe, by show k + 1 ≤ g.k + 1 + 1; omega, by show g.k + 1 + 1 ≤ k + 1 + 2 * ((i + 1 : Nat) : Int); omega⟩
      · show AllDigits (g.text ++ z).cps.toList
        rw [cps_app, hz1]
        exact AllDigits.app hg1 fun c hc => by rw [List.eq_of_mem_replicate hc]; omega
      · show i + 1 ≤ (g.text ++ z).length
        rw [Str.length_append]; omega
      · show (g.text ++ z).length ≤ 1500 * (i + 1)
        rw [Str.length_append]; omega
      · show _ = ((digitsVal (g.text ++ z).cps.toList : Nat) : Int)
        rw [cps_app, digitsVal_app, hz1, digitsVal_rep _ (by omega), List.length_replicate]
        show g.val * (10 : Int) ^ Int.toNat _ + ((10 : Int) ^ Int.toNat _ - 1).fdiv 9 * _ = _
        rw [rep_div, hg4]
        push_cast
        rw [Int.toNat_of_nonneg (by assumption)]
  case done =>
    intro g u h tk hP F' N'
    clear lF' lN' rgX
    k_steps
    rename (d < _ ∧ _) => hlt
    obtain ⟨p1, p2, p3, p4, p5, p6, p7⟩ := hP
    refine hret _ _ _ _ (by k_asm) (by k_asm) ⟨_, g.text, g.tt, g.val, g.vt, g.o, g.k, _, rfl, rfl, ?_, p1, ?_, ?_, p4, p5, ?_, ?_⟩
    · intro p hp
      rcases List.mem_cons.mp hp with rfl | hp
      · exact hlt.1
      · exact ktn_ltOf hlt.2 p hp
    · intro h
      rw [len_eq, h] at p2
      simp at p2
      omega
    · omega
    · omega
    · omega
end Mine
end
section
open PySem PySem.W PyProof.Rows PyProof PySem.Calls
namespace Mine
open PySem.NumText (AllDigits digitsVal)
theorem drop_take_while (p : Nat → Bool) : ∀ l : List Nat, l.drop (l.takeWhile p).length = l.dropWhile p
  | [] => rfl
  | c :: l => by
    rw [List.takeWhile_cons, List.dropWhile_cons]
    cases p c with
    | true => simpa using drop_take_while p l
    | false => rfl
theorem lstrip_list (x : Str) : (Txt.lstripChars x (Str.ofString "0")).cps.toList = x.cps.toList.dropWhile (· == 48) := by
  have hg : (Str.ofString "0").cps.contains = fun c => c == 48 := by
    rw [show Str.ofString "0" = ⟨#[48]⟩ from by decide +kernel]
    funext c
    rw [Bool.eq_iff_iff]
    simp
  have hb := PyProof.Rows.stripBy_eq (Str.ofString "0").cps.contains true false x
  show (Txt.stripBy (Str.ofString "0").cps.contains true false x).cps.toList = _
  rw [hb, StrLaws.strSub_toList, hg]
  unfold stripLo stripHi
  rw [if_pos rfl, if_neg (by decide), drop_take_while, List.take_of_length_le]
  have h1 := congrArg List.length (drop_take_while (fun c => c == 48) x.cps.toList)
  rw [List.length_drop] at h1
  rw [len_eq]
  omega
theorem plain_right {x y : Str} (hd : AllDigits x.cps.toList) (hy : y.cps.toList = decL (digitsVal x.cps.toList)) :
    (¬ (Txt.lstripChars x (Str.ofString "0") = Str.ofString "") → y = Txt.lstripChars x (Str.ofString "0")) ∧ (Txt.lstripChars x (Str.ofString "0") = Str.ofString "" → y = Str.ofString "0") := by
  have e0 : (Str.ofString "").cps.toList = [] := by decide +kernel
  have e1 : (Str.ofString "0").cps.toList = [48] := by decide +kernel
  rw [decL_strip hd, ← lstrip_list] at hy
  constructor
  · intro h
    rw [if_neg fun e => h (Str.ext' (Array.toList_inj.mp (e.trans e0.symm)))] at hy
    exact Str.ext' (Array.toList_inj.mp hy)
  · intro h
    rw [if_pos (by rw [h, e0])] at hy
    exact Str.ext' (Array.toList_inj.mp (hy.trans e1.symm))
theorem minus_len : (Str.ofString "-").length = 1 := by decide +kernel
set_option maxRecDepth 100000 in
set_option maxHeartbeats 8000000 in
set_option pp.deepTerms false in
set_option pp.deepTerms.threshold 8 in
theorem number_right_does {w : World} {mean : ExcName → Option Value} {mg mb : Str → Option Value} {news : List (Addr × Obj)} {x : Str} {t u : Tok}
    (hd : AllDigits x.cps.toList) (hne : x.cps.toList ≠ []) (hx : x.length ≤ 4500) :
    Does w mean mg mb 305 [.str x t, .int ((digitsVal x.cps.toList : Nat) : Int) u] 6 news (fun r news' => r = .bool true ∧ news' = news) := by
  k_with_none
  k_with "call ref" => (k_here; (with_reducible show wpAny _ _ (call (Value.ref 92) [Value.str _ _]) _ _ _); k_dflt (refine' does_use (number_in_does ?hd ?hx) ?k1 ?k2 ?k3 ?k4 ?k5 ?kK ?kd ?ku ?_; (case k1 => k_asm); (case k2 => k_asm); (case k3 => k_asm); (case k4 => k_asm); (case k5 => k_asm); (case kK => exact rfl); (case hd => assumption); (case hx => omega); (case kd => ktr_room); (case ku => ktr_units)); intro v9Z news9Z h9Z tk9Z F9Z N9Z hp9Z; (obtain ⟨⟨t9Z, e9Z⟩, en9Z⟩ := hp9Z; subst e9Z en9Z); (try dsimp only); (try k_fold))
  k_with "call ref" => (k_here; (with_reducible show wpAny _ _ (call (Value.ref 258) [Value.str _ _]) _ _ _); k_dflt (refine' does_use (number_from_does ?hd ?hx) ?k1 ?k2 ?k3 ?k4 ?k5 ?kK ?kd ?ku ?_; (case k1 => k_asm); (case k2 => k_asm); (case k3 => k_asm); (case k4 => k_asm); (case k5 => k_asm); (case kK => exact rfl); (case hd => assumption); (case hx => (try rw [Str.length_append]); (try simp only [minus_len]); omega); (case kd => ktr_room); (case ku => ktr_units)); intro v9Z news9Z h9Z tk9Z F9Z N9Z hp9Z; (obtain ⟨⟨t9Z, e9Z⟩, en9Z⟩ := hp9Z; subst e9Z en9Z); (try dsimp only); (try k_fold))
  k_with "call ref" => (k_here; (with_reducible show wpAny _ _ (call (Value.ref 85) [Value.int _ _]) _ _ _); k_dflt (refine' does_use (figures_of_does ?hd) ?k1 ?k2 ?k3 ?k4 ?k5 ?kK ?kd ?ku ?_; (case k1 => k_asm); (case k2 => k_asm); (case k3 => k_asm); (case k4 => k_asm); (case k5 => k_asm); (case kK => exact rfl); (case hd => assumption); (case kd => ktr_room); (case ku => ktr_units)); intro v9Z news9Z h9Z tk9Z F9Z N9Z hp9Z; (obtain ⟨⟨y9Z, t9Z, e9Z, ey9Z⟩, en9Z⟩ := hp9Z; subst e9Z en9Z); (try dsimp only); (try k_fold))
  have h1 : NumL x.cps.toList ((digitsVal x.cps.toList : Nat) : Int) := .inl ⟨hd, hne, rfl⟩
  have h2 : NumL (Str.ofString "-" ++ x).cps.toList (-((digitsVal x.cps.toList : Nat) : Int)) := .inr ⟨x.cps.toList, by rw [cps_app, minus_lit]; rfl, hd, hne, rfl⟩
  have h3 : digitsVal x.cps.toList < 10 ^ 5000 := Nat.lt_of_lt_of_le (digitsVal_lt hd) (Nat.pow_le_pow_right (by decide) (by rw [← len_eq]; omega))
  unfold Does
  k_fill
  intro dp un gd cn cs a ccd cl outer A₀ base h₀ L m s Q E B F X N T hk hdp hun hret
  refine wpAny_call ?_
  k_dflt ktr_enter
  k_steps
  all_goals first
    | exact absurd rfl (by assumption)
    | (rename (_ ≠ (0 : Int) - _) => h; exact absurd (Int.zero_sub _).symm h)
    | skip
  all_goals (refine hret _ _ _ _ (by k_asm) (by k_asm) ⟨congrArg Value.bool ?_, rfl⟩; rename (_ = decL _) => hy; obtain ⟨p1, p2⟩ := plain_right hd hy)
  · rename (_ != _) = true => h
    rw [beq_iff_eq]
    exact p1 (by simpa using h)
  · rename (_ != _) = false => h
    rw [beq_iff_eq]
    exact p2 (by simpa using h)
end Mine
end
section
open PySem PySem.W PyProof.Rows PyProof PySem.Calls PySem.Spec
namespace Mine
open PyProof.Rows.LCt PyProof.Rows.LCg
abbrev tup (vs : List Value) (n : Nat) : Obj := { cls := .type "tuple", data := .seq vs.toArray n }
section
variable {prog : Program} {w : World} {A : Around} {E : Value → Shared → Prop} {s : Shared} {h₀ : Heap} {L : Addr} {m : PySem.Str → Option Value} {env : Env}
def TupSrc (prog : Program) (w : World) (A : Around) (h₀ : Heap) (L : Addr) (m : PySem.Str → Option Value) (env : Env) (elt : PySem.Expr) (x : PySem.Str) (scope : Scope) (cl : List (PySem.Str × Addr)) (Q : Value → Shared → Prop) (xv : Value) (s₁ : Shared) : Prop :=
  ∃ ax vs k news, xv = .ref ax ∧ A.handled = none ∧ Fr h₀ L s₁.heap m ∧ News h₀ L s₁.heap news ∧ (ax, tup vs k) ∈ news ∧ vs.length ≤ sizeLine ∧
    ∀ s₂ : Shared, (∃ h, s₂ = { s₁ with heap := h }) → CompRest prog w A h₀ L m env elt x scope cl s₂ (fun nw => (ax, tup vs k) ∈ nw) (fun i v => vs[i]? = some v) (FinE h₀ L m s₂ Q) vs.length 0 [] news

theorem ListComp_tup {elt iter : PySem.Expr} {x : PySem.Str} {px : Pos} {scope : Scope} {cl : List (PySem.Str × Addr)} {pos : Pos} {Q : Value → Shared → Prop} (F₀ : Fr h₀ L s.heap m)
    (hclos : closureFor scope env = pure cl) (hcell : ∀ y ∈ scope.names, y.2 ≠ .cell) (hkind : scope.kind = .function)
    (hnames : ∀ y ∈ scope.names, y.2 = .local → scope.names.lookup y.1 = some .local) (hx : scope.names.lookup x = some .local)
    (h : wpAny (model prog w) A (eval iter env) (TupSrc prog w A h₀ L m env elt x scope cl Q) E s)
    (hs : ∀ x, foldedSetIterable iter env x = pure x := by intro _; rfl) :
    wpAny (model prog w) A (eval (.ListComp elt [⟨.Name x px, iter, [], 0⟩] scope pos) env) Q E s := by
  rw [eval_ListComp]
  refine wpAny_comprehension_free (use := none) rfl hs hclos hkind hnames (wpAny_mono h (fun xv s₁ h₁ => ?_) fun _ _ e => e)
  obtain ⟨ax, vs, k, news, rfl, hh, F, N, hm, hsz, R⟩ := h₁
  have hl : s₁.heap.IsTuple ax vs.toArray := ⟨_, (N _ hm).1, rfl, _, rfl⟩
  have hlt : ax < s₁.heap.objs.size := Heap.lt_size (N _ hm).1
  refine wpAny_pyIter_tuple hl ?_
  have up : ∀ b o, s₁.heap.get? b = some o → (s₁.heap.push { cls := .type "tuple_iterator", data := .fields #[.ref ax, .int 0 0] }).get? b = some o := fun b o e => Heap.get?_push_of_some _ e
  refine block_U (Walks.tuple hh s₁.heap.objs.size ax (Nat.ne_of_lt hlt) vs.toArray) (by rw [List.size_toArray]; exact hsz) (fun i h st => by obtain ⟨o, e, _⟩ := st.1; exact ⟨o, e⟩)
    (S := fun nw => (ax, tup vs k) ∈ nw)
    (fun i h h' o nw st e e' kp N' hS => ⟨let ⟨o', f, r⟩ := st.1; ⟨o', by rw [e] at f; cases f; exact e', r⟩, ⟨_, (N' _ hS).1, rfl, _, rfl⟩⟩) hcell hkind hx ⟨⟨_, Heap.get?_push_size _ rfl, rfl, rfl⟩, ⟨_, up _ _ (N _ hm).1, rfl, _, rfl⟩⟩ (fun b hb => ?_)
    (F.keeps up) (N.grown up) (Nat.ne_of_lt F.ns.lt) (next_is_new F) (fun p hp => Nat.ne_of_lt (Heap.lt_size (N p hp).1)) hm (by
      have := R { s₁ with heap := s₁.heap.push { cls := .type "tuple_iterator", data := .fields #[.ref ax, .int 0 0] } } ⟨_, rfl⟩
      simpa only [List.size_toArray, List.getElem?_toArray] using this) ?_
  · show b < (s₁.heap.push _).objs.size
    rw [Heap.size_push]
    rcases List.mem_cons.mp hb with rfl | hb
    · exact Nat.lt_succ_self _
    · rw [List.mem_singleton.mp hb]; exact Nat.lt_succ_of_lt hlt
  · intro D C h tk m' ys news' F' N' o1 hn hC₀ hD₀ hCL hDL hCD offC fin
    refine ⟨m', hn, fun h'' hs'' => fin D h'' tk (F'.change hs'' hCL hC₀) (fun p hp => ?_) o1⟩
    refine ⟨hs''.extBut _ _ ?_ (N' p hp).1, (N' p hp).2⟩
    rcases List.mem_cons.mp hp with rfl | hp
    · exact Ne.symm hCD
    · exact offC p hp
end
end Mine
end
section
open PySem PySem.W PyProof.Rows PyProof PySem.Calls
namespace Mine
open PySem.NumText (AllDigits digitsVal)
/-- the text of a whole number -/
def intL (n : Int) : List Nat := if n < 0 then 45 :: decL (-n).toNat else decL n.toNat
inductive Note where
  | num (n : Int)
  | pair (a b : Int)
  | deep (a : Int)
def noteL : Note → List Nat
  | .num n => intL n
  | .pair a b => 40 :: (intL a ++ 32 :: (intL b ++ [41]))
  | .deep a => 40 :: 40 :: (intL a ++ [41, 32, 119, 111, 114, 100, 32, 45, 41])
def Note.small : Note → Prop
  | .num n => n.natAbs < 10 ^ 4500
  | .pair a b => a.natAbs < 10 ^ 4500 ∧ b.natAbs < 10 ^ 4500
  | .deep a => a.natAbs < 10 ^ 4500
def NoteAt (news : List (Addr × Obj)) (v : Value) : Note → Prop
  | .num n => ∃ t, v = .int n t
  | .pair a b => ∃ D t1 t2 k, v = .ref D ∧ (D, tup [.int a t1, .int b t2] k) ∈ news
  | .deep a => ∃ D D2 t1 t2 k k2, v = .ref D ∧ (D, tup [.ref D2, .str (Str.ofString "word") t2, .none] k) ∈ news ∧ (D2, tup [.int a t1] k2) ∈ news
theorem figures_of_int {w : World} {mean : ExcName → Option Value} {mg mb : Str → Option Value} {news : List (Addr × Obj)} {a : Int} {t : Tok} (h0 : 0 ≤ a) (h1 : a.natAbs < 10 ^ 4500) :
    Does w mean mg mb 85 [.int a t] 2 news (fun v news' => (∃ y t, v = .str y t ∧ y.cps.toList = decL a.toNat ∧ y.length ≤ 5000) ∧ news' = news) := by
  obtain ⟨n, rfl⟩ := Int.eq_ofNat_of_zero_le h0
  have hn : n < 10 ^ 5000 := Nat.lt_of_lt_of_le (by simpa using h1) (Nat.pow_le_pow_right (by decide) (by decide))
  intro dp un gd cn cs a ccd cl outer A₀ base h₀ L m s Q E B F X N T hk hd hu ret
  refine figures_of_does (mean := mean) (mg := mg) (mb := mb) hn dp un gd cn cs a ccd cl outer A₀ base h₀ L m s Q E B F X N T hk hd hu fun v news' h' tk' F' N' hp => ret v news' h' tk' F' N' ?_
  obtain ⟨⟨y, t, e, ey⟩, en⟩ := hp
  exact ⟨⟨y, t, e, by rw [ey]; rfl, by rw [len_eq, ey]; exact decL_len (k := 4999) hn⟩, en⟩
theorem neg_small {n : Int} (h : n.natAbs < 10 ^ 4500) : (-n).natAbs < 10 ^ 4500 := by rw [Int.natAbs_neg]; exact h
set_option maxRecDepth 100000 in
set_option maxHeartbeats 8000000 in
set_option pp.deepTerms false in
set_option pp.deepTerms.threshold 8 in
theorem note_text_int {w : World} {mean : ExcName → Option Value} {mg mb : Str → Option Value} {news : List (Addr × Obj)} {n : Int} {t : Tok}
    (hn : n.natAbs < 10 ^ 4500) :
    Does w mean mg mb 234 [.int n t] 4 news (fun r news' => (∃ y t, r = .str y t ∧ y.cps.toList = intL n ∧ y.length ≤ 5001) ∧ news' = news) := by
  k_with_none
  k_with "call ref" => (k_here; (with_reducible show wpAny _ _ (call (Value.ref 85) [Value.int _ _]) _ _ _); k_dflt (refine' does_use (figures_of_int ?h0 ?hd) ?k1 ?k2 ?k3 ?k4 ?k5 ?kK ?kd ?ku ?_; (case k1 => k_asm); (case k2 => k_asm); (case k3 => k_asm); (case k4 => k_asm); (case k5 => k_asm); (case kK => exact rfl); (case h0 => omega); (case hd => first | assumption | exact neg_small (by assumption)); (case kd => ktr_room); (case ku => ktr_units)); intro v9Z news9Z h9Z tk9Z F9Z N9Z hp9Z; (obtain ⟨⟨y9Z, t9Z, e9Z, ey9Z, el9Z⟩, en9Z⟩ := hp9Z; subst e9Z en9Z); (try dsimp only); (try k_fold))
  unfold Does
  k_fill
  intro dp un gd cn cs a ccd cl outer A₀ base h₀ L m s Q E B F X N T hk hdp hun hret
  refine wpAny_call ?_
  k_dflt ktr_enter
  k_steps
  · refine hret _ _ _ _ (by k_asm) (by k_asm) ⟨⟨_, _, rfl, ?_, ?_⟩, rfl⟩
    · rename (_ = decL _) => hy
      rw [cps_app, hy, minus_lit]
      unfold intL
      rw [if_pos (by assumption)]
      rfl
    · rw [Str.length_append, minus_len]; omega
  · refine hret _ _ _ _ (by k_asm) (by k_asm) ⟨⟨_, _, rfl, ?_, by omega⟩, rfl⟩
    rename (_ = decL _) => hy
    rw [hy]
    unfold intL
    rw [if_neg (by assumption)]
set_option maxRecDepth 100000 in
set_option maxHeartbeats 8000000 in
theorem note_text_none {w : World} {mean : ExcName → Option Value} {mg mb : Str → Option Value} {news : List (Addr × Obj)} :
    Does w mean mg mb 234 [.none] 4 news (fun r news' => (∃ t, r = .str (Str.ofString "-") t) ∧ news' = news) := by
  k_with_none
  k_with "call ref" => (k_here; (with_reducible show wpAny _ _ (call (Value.ref 85) [Value.int _ _]) _ _ _); k_dflt (refine' does_use (figures_of_int ?h0 ?hd) ?k1 ?k2 ?k3 ?k4 ?k5 ?kK ?kd ?ku ?_; (case k1 => k_asm); (case k2 => k_asm); (case k3 => k_asm); (case k4 => k_asm); (case k5 => k_asm); (case kK => exact rfl); (case h0 => omega); (case hd => first | assumption | exact neg_small (by assumption)); (case kd => ktr_room); (case ku => ktr_units)); intro v9Z news9Z h9Z tk9Z F9Z N9Z hp9Z; (obtain ⟨⟨y9Z, t9Z, e9Z, ey9Z, el9Z⟩, en9Z⟩ := hp9Z; subst e9Z en9Z); (try dsimp only); (try k_fold))
  unfold Does
  k_fill
  intro dp un gd cn cs a ccd cl outer A₀ base h₀ L m s Q E B F X N T hk hdp hun hret
  refine wpAny_call ?_
  k_dflt ktr_enter
  k_steps
  refine hret _ _ _ _ (by k_asm) (by k_asm) ⟨⟨_, rfl⟩, rfl⟩
set_option maxRecDepth 100000 in
set_option maxHeartbeats 8000000 in
theorem note_text_word {w : World} {mean : ExcName → Option Value} {mg mb : Str → Option Value} {news : List (Addr × Obj)} {t : Tok} :
    Does w mean mg mb 234 [.str (Str.ofString "word") t] 4 news (fun r news' => (∃ t, r = .str (Str.ofString "word") t) ∧ news' = news) := by
  k_with_none
  k_with "call ref" => (k_here; (with_reducible show wpAny _ _ (call (Value.ref 85) [Value.int _ _]) _ _ _); k_dflt (refine' does_use (figures_of_int ?h0 ?hd) ?k1 ?k2 ?k3 ?k4 ?k5 ?kK ?kd ?ku ?_; (case k1 => k_asm); (case k2 => k_asm); (case k3 => k_asm); (case k4 => k_asm); (case k5 => k_asm); (case kK => exact rfl); (case h0 => omega); (case hd => first | assumption | exact neg_small (by assumption)); (case kd => ktr_room); (case ku => ktr_units)); intro v9Z news9Z h9Z tk9Z F9Z N9Z hp9Z; (obtain ⟨⟨y9Z, t9Z, e9Z, ey9Z, el9Z⟩, en9Z⟩ := hp9Z; subst e9Z en9Z); (try dsimp only); (try k_fold))
  unfold Does
  k_fill
  intro dp un gd cn cs a ccd cl outer A₀ base h₀ L m s Q E B F X N T hk hdp hun hret
  refine wpAny_call ?_
  k_dflt ktr_enter
  k_steps
  refine hret _ _ _ _ (by k_asm) (by k_asm) ⟨⟨_, rfl⟩, rfl⟩
end Mine
end
section
open PySem PySem.W PyProof.Rows PyProof PySem.Calls PySem.Spec
namespace Mine
def joinL (sep : List Nat) : List (List Nat) → List Nat
  | [] => []
  | [a] => a
  | a :: r => a ++ sep ++ joinL sep r
theorem join_text (sep : Str) : ∀ ys : List Str, (Txt.join sep ys).cps.toList = joinL sep.cps.toList (ys.map fun y => y.cps.toList) := by
  intro ys
  unfold Txt.join
  rw [StrLaws.glued_eq_join]
  induction ys with
  | nil => rfl
  | cons y r ih =>
    cases r with
    | nil => rfl
    | cons z r =>
      show (y ++ sep ++ Str.join sep (z :: r)).cps.toList = _
      rw [cps_app, cps_app, ih]
      rfl
theorem list_space : (Str.ofString " ").cps.toList = [32] := by decide +kernel
theorem list_minus : (Str.ofString "-").cps.toList = [45] := by decide +kernel
theorem list_open : (Str.ofString "(").cps.toList = [40] := by decide +kernel
theorem list_close : (Str.ofString ")").cps.toList = [41] := by decide +kernel
theorem list_word : (Str.ofString "word").cps.toList = [119, 111, 114, 100] := by decide +kernel
theorem list_nl : (Str.ofString "\n").cps.toList = [10] := by decide +kernel
theorem len_space : (Str.ofString " ").length = 1 := by decide +kernel
theorem len_minus : (Str.ofString "-").length = 1 := by decide +kernel
theorem len_open : (Str.ofString "(").length = 1 := by decide +kernel
theorem len_close : (Str.ofString ")").length = 1 := by decide +kernel
theorem len_word : (Str.ofString "word").length = 4 := by decide +kernel
theorem len_nl : (Str.ofString "\n").length = 1 := by decide +kernel
theorem strs1 {a : Str} {t : Tok} : StrsAre ([] ++ [Value.str a t]) [a] := .cons _ _ .nil
theorem strs2 {a b : Str} {t u : Tok} : StrsAre ([] ++ [Value.str a t] ++ [Value.str b u]) [a, b] := .cons _ _ (.cons _ _ .nil)
theorem strs3 {a b c : Str} {t u v : Tok} : StrsAre ([] ++ [Value.str a t] ++ [Value.str b u] ++ [Value.str c v]) [a, b, c] := .cons _ _ (.cons _ _ (.cons _ _ .nil))
section
variable {prog : Program} {w : World} {A : Around} {E : Value → Shared → Prop} {s : Shared} {t u : Tok} {x y : Str}
theorem join_fresh {D : Addr} {items : Array Value} {ys : List Str} {Q : Value → Shared → Prop} (hl : s.heap.IsList D items) (hi : StrsAre items.toList ys) (hok : (ys.map (·.length)).sum + ys.length * x.length ≤ 16777216)
    (h : ∀ z t' k, z.cps.toList = joinL x.cps.toList (ys.map fun y => y.cps.toList) → z.length ≤ (ys.map (·.length)).sum + ys.length * x.length → Q (.str z t') { s with toks := k }) : wpAny (model prog w) A (call (.builtin "str.join") [.str x t, .ref D]) Q E s :=
  join_list hl hi hok fun t' k => h _ t' k (join_text x ys) (by
    show (Builtin.Str.glued x ys).length ≤ _
    rw [StrLaws.glued_eq_join]
    exact StrLaws.join_length_le x ys)
theorem add_fresh {Q : Value → Shared → Prop} (hs : x.length + y.length ≤ 16777216) (h : ∀ z t' k, z.cps.toList = x.cps.toList ++ y.cps.toList → z.length = x.length + y.length → Q (.str z t') { s with toks := k }) : wpAny (model prog w) A (binaryOp .Add (.str x t) (.str y u)) Q E s :=
  KOpn.add hs fun t' k _ => h _ t' k (cps_app x y) (Str.length_append x y)
end
end Mine
end
section
open PySem PySem.W PyProof.Rows PyProof PySem.Calls
namespace Mine
open PySem.NumText (AllDigits digitsVal)
open PyProof.Rows.LCg
local macro_rules | `(tactic| k_mem) => `(tactic| with_unfolding_all assumption)
set_option maxRecDepth 100000 in
set_option maxHeartbeats 8000000 in
set_option pp.deepTerms false in
set_option pp.deepTerms.threshold 8 in
theorem note_text_one {w : World} {mean : ExcName → Option Value} {mg mb : Str → Option Value} {news : List (Addr × Obj)} {n : Int} {t : Tok} {D : Addr} {k : Nat}
    (hn : n.natAbs < 10 ^ 4500) (hD : (D, tup [.int n t] k) ∈ news) :
    Does w mean mg mb 234 [.ref D] 8 news (fun r news' => (∃ y t, r = .str y t ∧ y.cps.toList = 40 :: (intL n ++ [41]) ∧ y.length ≤ 5010) ∧ news' = news) := by
  k_with_none
  k_with "call ref" => (k_here; (with_reducible show wpAny _ _ (call (Value.ref 234) [Value.int _ _]) _ _ _); k_dflt (refine' does_use (note_text_int ?h0) ?k1 ?k2 ?k3 ?k4 ?k5 ?kK ?kd ?ku ?_; (case k1 => k_asm); (case k2 => k_asm); (case k3 => k_asm); (case k4 => k_asm); (case k5 => k_asm); (case kK => exact rfl); (case h0 => assumption); (case kd => ktr_room); (case ku => ktr_units)); intro v9Z news9Z h9Z tk9Z F9Z N9Z hp9Z; (obtain ⟨⟨y9Z, t9Z, e9Z, ey9Z, el9Z⟩, en9Z⟩ := hp9Z; subst e9Z en9Z); (try dsimp only); (try k_fold))
  k_with "call builtin:str.join" => (k_here; (with_reducible show wpAny _ _ (call (Value.builtin "str.join") [Value.str _ _, Value.ref _]) _ _ _); k_dflt (refine' join_fresh (News.isList ?hN (.head _)) ?hi ?hok ?_; (case hN => k_asm); (case hi => first | exact strs1 | exact strs2 | exact strs3); (case hok => (simp only [List.map_cons, List.map_nil, List.sum_cons, List.sum_nil, List.length_cons, List.length_nil, len_space, len_minus, len_word]; omega))); intro zZ tzZ kzZ hz1Z hz2Z; (simp only [List.map_cons, List.map_nil, List.sum_cons, List.sum_nil, List.length_cons, List.length_nil, len_space, len_minus, len_word] at hz2Z))
  k_with "binaryOp Add str str" => (k_here; (with_reducible show wpAny _ _ (binaryOp Operator.Add (Value.str _ _) (Value.str _ _)) _ _ _); (refine' add_fresh ?hs ?_; (case hs => ((try simp only [len_open, len_close]); omega)); intro zZ tzZ kzZ hz1Z hz2Z; (try simp only [len_open, len_close] at hz2Z)))
  k_with "eval ListComp" => (k_here; k_dflt (refine ListComp_tup (F₀ := by k_asm) (by with_unfolding_all rfl) (by decide) (by rfl) (by decide) (by rfl) ?_))
  unfold Does
  k_fill
  intro dp un gd cn cs a ccd cl outer A₀ base h₀ L m s Q E B F X N T hk hdp hun hret
  refine wpAny_call ?_
  k_dflt ktr_enter
  k_steps
  refine ⟨_, _, _, _, rfl, rfl, by k_asm, by k_asm, hD, by rw [sizeLine_eq]; exact Nat.le_of_ble_eq_true rfl, fun s₂ h₂ => ?_⟩
  obtain ⟨h₂, rfl⟩ := h₂
  refine CompRest.succ (k := 0) fun v I oI C oC D2 m₂ h tk E' hP hns hx F' N' off ne => ?_
  cases hP
  k_steps
  refine ⟨_, _, news, rfl, by k_asm, by k_asm, off, hD, CompRest.zero ?_⟩
  clear hns hx F' N' off ne
  k_steps
  refine hret _ news _ _ (by k_asm) (kst_newsOf (by k_asm) fun p hp => .tail _ hp) ⟨⟨_, _, rfl, ?_, by omega⟩, rfl⟩
  rename (_ = _ ++ (Str.ofString ")").cps.toList) => e3
  rename (_ = (Str.ofString "(").cps.toList ++ _) => e2
  rename (_ = joinL _ _) => e1
  rename (_ = intL n) => e0
  rw [e3, e2, e1, List.map_cons, List.map_nil, e0, list_open, list_close]
  simp [joinL]

set_option maxRecDepth 100000 in
set_option maxHeartbeats 8000000 in
theorem note_text_pair {w : World} {mean : ExcName → Option Value} {mg mb : Str → Option Value} {news : List (Addr × Obj)} {n1 n2 : Int} {t1 t2 : Tok} {D : Addr} {k : Nat}
    (hn1 : n1.natAbs < 10 ^ 4500) (hn2 : n2.natAbs < 10 ^ 4500) (hD : (D, tup [.int n1 t1, .int n2 t2] k) ∈ news) :
    Does w mean mg mb 234 [.ref D] 8 news (fun r news' => (∃ y t, r = .str y t ∧ y.cps.toList = noteL (.pair n1 n2) ∧ y.length ≤ 20000) ∧ news' = news) := by
  k_with_none
  k_with "call ref" => (k_here; (with_reducible show wpAny _ _ (call (Value.ref 234) [Value.int _ _]) _ _ _); k_dflt (refine' does_use (note_text_int ?h0) ?k1 ?k2 ?k3 ?k4 ?k5 ?kK ?kd ?ku ?_; (case k1 => k_asm); (case k2 => k_asm); (case k3 => k_asm); (case k4 => k_asm); (case k5 => k_asm); (case kK => exact rfl); (case h0 => assumption); (case kd => ktr_room); (case ku => ktr_units)); intro v9Z news9Z h9Z tk9Z F9Z N9Z hp9Z; (obtain ⟨⟨y9Z, t9Z, e9Z, ey9Z, el9Z⟩, en9Z⟩ := hp9Z; subst e9Z en9Z); (try dsimp only); (try k_fold))
  k_with "call builtin:str.join" => (k_here; (with_reducible show wpAny _ _ (call (Value.builtin "str.join") [Value.str _ _, Value.ref _]) _ _ _); k_dflt (refine' join_fresh (News.isList ?hN (.head _)) ?hi ?hok ?_; (case hN => k_asm); (case hi => first | exact strs1 | exact strs2 | exact strs3); (case hok => (simp only [List.map_cons, List.map_nil, List.sum_cons, List.sum_nil, List.length_cons, List.length_nil, len_space, len_minus, len_word]; omega))); intro zZ tzZ kzZ hz1Z hz2Z; (simp only [List.map_cons, List.map_nil, List.sum_cons, List.sum_nil, List.length_cons, List.length_nil, len_space, len_minus, len_word] at hz2Z))
  k_with "binaryOp Add str str" => (k_here; (with_reducible show wpAny _ _ (binaryOp Operator.Add (Value.str _ _) (Value.str _ _)) _ _ _); (refine' add_fresh ?hs ?_; (case hs => ((try simp only [len_open, len_close]); omega)); intro zZ tzZ kzZ hz1Z hz2Z; (try simp only [len_open, len_close] at hz2Z)))
  k_with "eval ListComp" => (k_here; k_dflt (refine ListComp_tup (F₀ := by k_asm) (by with_unfolding_all rfl) (by decide) (by rfl) (by decide) (by rfl) ?_))
  k_with "call ref" => (k_here; (with_reducible show wpAny _ _ (call (Value.ref 234) [Value.none]) _ _ _); k_dflt (refine' does_use note_text_none ?k1 ?k2 ?k3 ?k4 ?k5 ?kK ?kd ?ku ?_; (case k1 => k_asm); (case k2 => k_asm); (case k3 => k_asm); (case k4 => k_asm); (case k5 => k_asm); (case kK => exact rfl); (case kd => ktr_room); (case ku => ktr_units)); intro v9Z news9Z h9Z tk9Z F9Z N9Z hp9Z; (obtain ⟨⟨t9Z, e9Z⟩, en9Z⟩ := hp9Z; subst e9Z en9Z); (try dsimp only); (try k_fold))
  k_with "call ref" => (k_here; (with_reducible show wpAny _ _ (call (Value.ref 234) [Value.str _ _]) _ _ _); k_dflt (refine' does_use note_text_word ?k1 ?k2 ?k3 ?k4 ?k5 ?kK ?kd ?ku ?_; (case k1 => k_asm); (case k2 => k_asm); (case k3 => k_asm); (case k4 => k_asm); (case k5 => k_asm); (case kK => exact rfl); (case kd => ktr_room); (case ku => ktr_units)); intro v9Z news9Z h9Z tk9Z F9Z N9Z hp9Z; (obtain ⟨⟨t9Z, e9Z⟩, en9Z⟩ := hp9Z; subst e9Z en9Z); (try dsimp only); (try k_fold))
  k_with "call ref" => (k_here; (with_reducible rename ((_, tup [Value.int _ _] _) ∈ _) => hInZ); (with_reducible show wpAny _ _ (call (Value.ref 234) [Value.ref _]) _ _ _); k_dflt (refine' does_use (note_text_one ?h0 ?hI) ?k1 ?k2 ?k3 ?k4 ?k5 ?kK ?kd ?ku ?_; (case k1 => k_asm); (case k2 => k_asm); (case k3 => k_asm); (case k4 => k_asm); (case k5 => k_asm); (case kK => exact rfl); (case h0 => assumption); (case hI => exact .tail _ (.tail _ (.tail _ hInZ))); (case kd => ktr_room); (case ku => ktr_units)); intro v9Z news9Z h9Z tk9Z F9Z N9Z hp9Z; (obtain ⟨⟨y9Z, t9Z, e9Z, ey9Z, el9Z⟩, en9Z⟩ := hp9Z; subst e9Z en9Z); (try dsimp only); (try k_fold))
  unfold Does
  k_fill
  intro dp un gd cn cs a ccd cl outer A₀ base h₀ L m s Q E B F X N T hk hdp hun hret
  refine wpAny_call ?_
  k_dflt ktr_enter
  k_steps
  refine ⟨_, _, _, _, rfl, rfl, by k_asm, by k_asm, hD, by rw [sizeLine_eq]; exact Nat.le_of_ble_eq_true rfl, fun s₂ h₂ => ?_⟩
  obtain ⟨h₂, rfl⟩ := h₂
  refine CompRest.succ (k := 1) fun v I oI C oC D2 m₂ h tk E' hP hns hx F' N' off ne => ?_
  cases hP
  k_steps
  refine ⟨_, _, news, rfl, by k_asm, by k_asm, off, hD, ?_⟩
  clear hns hx F' N' off ne
  refine CompRest.succ (k := 0) fun v I oI C oC D2 m₂ h tk E' hP hns hx F' N' off ne => ?_
  cases hP
  k_steps
  refine ⟨_, _, news, rfl, by k_asm, by k_asm, off, hD, CompRest.zero ?_⟩
  clear hns hx F' N' off ne
  k_steps
  refine hret _ news _ _ (by k_asm) (kst_newsOf (by k_asm) fun p hp => .tail _ hp) ⟨⟨_, _, rfl, ?_, by omega⟩, rfl⟩
  rename (_ = _ ++ (Str.ofString ")").cps.toList) => e3
  rename (_ = (Str.ofString "(").cps.toList ++ _) => e2
  rename (_ = joinL _ _) => e1
  rename (_ = intL n2) => e0
  rename (_ = intL n1) => e9
  rw [e3, e2, e1, List.map_cons, List.map_cons, List.map_nil, e0, e9, list_open, list_close, list_space]
  simp [joinL, noteL]
set_option maxRecDepth 100000 in
set_option maxHeartbeats 8000000 in
theorem note_text_deep {w : World} {mean : ExcName → Option Value} {mg mb : Str → Option Value} {news : List (Addr × Obj)} {n1 : Int} {t1 t2 : Tok} {D DD : Addr} {k kk : Nat}
    (hn1 : n1.natAbs < 10 ^ 4500) (hD : (D, tup [.ref DD, .str (Str.ofString "word") t2, .none] k) ∈ news) (hDD : (DD, tup [.int n1 t1] kk) ∈ news) :
    Does w mean mg mb 234 [.ref D] 16 news (fun r news' => (∃ y t, r = .str y t ∧ y.cps.toList = noteL (.deep n1) ∧ y.length ≤ 20000) ∧ news' = news) := by
  k_with_none
  k_with "call ref" => (k_here; (with_reducible show wpAny _ _ (call (Value.ref 234) [Value.int _ _]) _ _ _); k_dflt (refine' does_use (note_text_int ?h0) ?k1 ?k2 ?k3 ?k4 ?k5 ?kK ?kd ?ku ?_; (case k1 => k_asm); (case k2 => k_asm); (case k3 => k_asm); (case k4 => k_asm); (case k5 => k_asm); (case kK => exact rfl); (case h0 => assumption); (case kd => ktr_room); (case ku => ktr_units)); intro v9Z news9Z h9Z tk9Z F9Z N9Z hp9Z; (obtain ⟨⟨y9Z, t9Z, e9Z, ey9Z, el9Z⟩, en9Z⟩ := hp9Z; subst e9Z en9Z); (try dsimp only); (try k_fold))
  k_with "call builtin:str.join" => (k_here; (with_reducible show wpAny _ _ (call (Value.builtin "str.join") [Value.str _ _, Value.ref _]) _ _ _); k_dflt (refine' join_fresh (News.isList ?hN (.head _)) ?hi ?hok ?_; (case hN => k_asm); (case hi => first | exact strs1 | exact strs2 | exact strs3); (case hok => (simp only [List.map_cons, List.map_nil, List.sum_cons, List.sum_nil, List.length_cons, List.length_nil, len_space, len_minus, len_word]; omega))); intro zZ tzZ kzZ hz1Z hz2Z; (simp only [List.map_cons, List.map_nil, List.sum_cons, List.sum_nil, List.length_cons, List.length_nil, len_space, len_minus, len_word] at hz2Z))
  k_with "binaryOp Add str str" => (k_here; (with_reducible show wpAny _ _ (binaryOp Operator.Add (Value.str _ _) (Value.str _ _)) _ _ _); (refine' add_fresh ?hs ?_; (case hs => ((try simp only [len_open, len_close]); omega)); intro zZ tzZ kzZ hz1Z hz2Z; (try simp only [len_open, len_close] at hz2Z)))
  k_with "eval ListComp" => (k_here; k_dflt (refine ListComp_tup (F₀ := by k_asm) (by with_unfolding_all rfl) (by decide) (by rfl) (by decide) (by rfl) ?_))
  k_with "call ref" => (k_here; (with_reducible show wpAny _ _ (call (Value.ref 234) [Value.none]) _ _ _); k_dflt (refine' does_use note_text_none ?k1 ?k2 ?k3 ?k4 ?k5 ?kK ?kd ?ku ?_; (case k1 => k_asm); (case k2 => k_asm); (case k3 => k_asm); (case k4 => k_asm); (case k5 => k_asm); (case kK => exact rfl); (case kd => ktr_room); (case ku => ktr_units)); intro v9Z news9Z h9Z tk9Z F9Z N9Z hp9Z; (obtain ⟨⟨t9Z, e9Z⟩, en9Z⟩ := hp9Z; subst e9Z en9Z); (try dsimp only); (try k_fold))
  k_with "call ref" => (k_here; (with_reducible show wpAny _ _ (call (Value.ref 234) [Value.str _ _]) _ _ _); k_dflt (refine' does_use note_text_word ?k1 ?k2 ?k3 ?k4 ?k5 ?kK ?kd ?ku ?_; (case k1 => k_asm); (case k2 => k_asm); (case k3 => k_asm); (case k4 => k_asm); (case k5 => k_asm); (case kK => exact rfl); (case kd => ktr_room); (case ku => ktr_units)); intro v9Z news9Z h9Z tk9Z F9Z N9Z hp9Z; (obtain ⟨⟨t9Z, e9Z⟩, en9Z⟩ := hp9Z; subst e9Z en9Z); (try dsimp only); (try k_fold))
  k_with "call ref" => (k_here; (with_reducible rename ((_, tup [Value.int _ _] _) ∈ _) => hInZ); (with_reducible show wpAny _ _ (call (Value.ref 234) [Value.ref _]) _ _ _); k_dflt (refine' does_use (note_text_one ?h0 ?hI) ?k1 ?k2 ?k3 ?k4 ?k5 ?kK ?kd ?ku ?_; (case k1 => k_asm); (case k2 => k_asm); (case k3 => k_asm); (case k4 => k_asm); (case k5 => k_asm); (case kK => exact rfl); (case h0 => assumption); (case hI => exact .tail _ (.tail _ (.tail _ hInZ))); (case kd => ktr_room); (case ku => ktr_units)); intro v9Z news9Z h9Z tk9Z F9Z N9Z hp9Z; (obtain ⟨⟨y9Z, t9Z, e9Z, ey9Z, el9Z⟩, en9Z⟩ := hp9Z; subst e9Z en9Z); (try dsimp only); (try k_fold))
  unfold Does
  k_fill
  intro dp un gd cn cs a ccd cl outer A₀ base h₀ L m s Q E B F X N T hk hdp hun hret
  refine wpAny_call ?_
  k_dflt ktr_enter
  k_steps
  refine ⟨_, _, _, _, rfl, rfl, by k_asm, by k_asm, hD, by rw [sizeLine_eq]; exact Nat.le_of_ble_eq_true rfl, fun s₂ h₂ => ?_⟩
  obtain ⟨h₂, rfl⟩ := h₂
  refine CompRest.succ (k := 2) fun v I oI C oC D2 m₂ h tk E' hP hns hx F' N' off ne => ?_
  cases hP
  k_steps
  refine ⟨_, _, news, rfl, by k_asm, by k_asm, off, hD, ?_⟩
  clear hns hx F' N' off ne
  refine CompRest.succ (k := 1) fun v I oI C oC D2 m₂ h tk E' hP hns hx F' N' off ne => ?_
  cases hP
  k_steps
  refine ⟨_, _, news, rfl, by k_asm, by k_asm, off, hD, ?_⟩
  clear hns hx F' N' off ne
  refine CompRest.succ (k := 0) fun v I oI C oC D2 m₂ h tk E' hP hns hx F' N' off ne => ?_
  cases hP
  k_steps
  refine ⟨_, _, news, rfl, by k_asm, by k_asm, off, hD, CompRest.zero ?_⟩
  clear hns hx F' N' off ne
  k_steps
  refine hret _ news _ _ (by k_asm) (kst_newsOf (by k_asm) fun p hp => .tail _ hp) ⟨⟨_, _, rfl, ?_, by omega⟩, rfl⟩
  rename (_ = _ ++ (Str.ofString ")").cps.toList) => e3
  rename (_ = (Str.ofString "(").cps.toList ++ _) => e2
  rename (_ = joinL _ _) => e1
  rename (_ = 40 :: (intL n1 ++ [41])) => e0
  rw [e3, e2, e1, List.map_cons, List.map_cons, List.map_cons, List.map_nil, e0, list_open, list_close, list_space, list_word, list_minus]
  simp [joinL, noteL]
open PySem PySem.W PyProof.Rows PyProof PySem.Calls
open PySem.NumText (AllDigits digitsVal)
open PyProof.Rows.LCg
theorem does_more {w : World} {mean : ExcName → Option Value} {mg mb : Str → Option Value} {f : Addr} {vs : List Value} {rm rm' : Nat} {news : List (Addr × Obj)} {Post Post' : Value → List (Addr × Obj) → Prop}
    (D : Does w mean mg mb f vs rm news Post) (hr : rm ≤ rm') (hp : ∀ v n, Post v n → Post' v n) : Does w mean mg mb f vs rm' news Post' := by
  intro dp un gd cn cs a ccd cl outer A₀ base h₀ L m s Q E B F X N T hk hd hu ret
  exact D dp un gd cn cs a ccd cl outer A₀ base h₀ L m s Q E B F X N T hk (by omega) (by omega) fun v news' h' tk' F' N' hp' => ret v news' h' tk' F' N' (hp _ _ hp')
theorem note_text_does {w : World} {mean : ExcName → Option Value} {mg mb : Str → Option Value} {news : List (Addr × Obj)} {nv : Value} {nt : Note} (hs : nt.small) (hn : NoteAt news nv nt) :
    Does w mean mg mb 234 [nv] 16 news (fun r news' => (∃ y t, r = .str y t ∧ y.cps.toList = noteL nt ∧ y.length ≤ 20000) ∧ news' = news) := by
  cases nt with
  | num n =>
    obtain ⟨t, rfl⟩ := hn
    exact does_more (note_text_int hs) (by decide) fun v n h => ⟨h.1.imp fun y h => h.imp fun t h => ⟨h.1, h.2.1, by omega⟩, h.2⟩
  | pair a b =>
    obtain ⟨D, t1, t2, k, rfl, hD⟩ := hn
    exact does_more (note_text_pair hs.1 hs.2 hD) (by decide) fun v n h => h
  | deep a =>
    obtain ⟨D, D2, t1, t2, k, k2, rfl, hD, hD2⟩ := hn
    exact does_more (note_text_deep hs hD hD2) (by decide) fun v n h => h
set_option maxRecDepth 100000 in
set_option maxHeartbeats 8000000 in
set_option pp.deepTerms false in
set_option pp.deepTerms.threshold 8 in
theorem row_of_one {w : World} {mean : ExcName → Option Value} {mg mb : Str → Option Value} {news : List (Addr × Obj)} {c : Int} {t : Tok} {C : Addr} {k : Nat}
    (h0 : 0 ≤ c) (h1 : c < 10) (hC : (C, tup [.int c t] k) ∈ news) :
    Does w mean mg mb 239 [.ref C] 4 news (fun r news' => (∃ y t, r = .str y t ∧ y.cps.toList = decL c.toNat ∧ y.length ≤ 10) ∧ news' = news) := by
  k_with_none
  k_with "call builtin:str.join" => (k_here; (with_reducible show wpAny _ _ (call (Value.builtin "str.join") [Value.str _ _, Value.ref _]) _ _ _); k_dflt (refine' join_fresh (News.isList ?hN (.head _)) ?hi ?hok ?_; (case hN => k_asm); (case hi => first | exact strs1 | exact strs2 | exact strs3); (case hok => (simp only [List.map_cons, List.map_nil, List.sum_cons, List.sum_nil, List.length_cons, List.length_nil, len_space, len_minus, len_word]; omega))); intro zZ tzZ kzZ hz1Z hz2Z; (simp only [List.map_cons, List.map_nil, List.sum_cons, List.sum_nil, List.length_cons, List.length_nil, len_space, len_minus, len_word] at hz2Z))
  k_with "eval ListComp" => (k_here; k_dflt (refine ListComp_tup (F₀ := by k_asm) (by with_unfolding_all rfl) (by decide) (by rfl) (by decide) (by rfl) ?_))
  k_with "call type:str" => (k_here; (with_reducible show wpAny _ _ (call (Value.type "str") [Value.int _ _]) _ _ _); (refine' str_big (n := Int.toNat _) (Int.toNat_of_nonneg (by omega)).symm rfl (no_digits ?hF ?hT) ?hb ?_); (case hF => assumption); (case hT => assumption); (case hb => exact Nat.lt_of_lt_of_le (m := 10) (by omega) small_big); intro yZ hy1Z hy2Z hy3Z)
  unfold Does
  k_fill
  intro dp un gd cn cs a ccd cl outer A₀ base h₀ L m s Q E B F X N T hk hdp hun hret
  refine wpAny_call ?_
  k_dflt ktr_enter
  k_steps
  refine ⟨_, _, _, _, rfl, rfl, by k_asm, by k_asm, hC, by rw [sizeLine_eq]; exact Nat.le_of_ble_eq_true rfl, fun s₂ h₂ => ?_⟩
  obtain ⟨h₂, rfl⟩ := h₂
  refine CompRest.succ (k := 0) fun v I oI C oC D2 m₂ h tk E' hP hns hx F' N' off ne => ?_
  cases hP
  k_steps
  refine ⟨_, _, news, rfl, by k_asm, by k_asm, off, hC, CompRest.zero ?_⟩
  clear hns hx F' N' off ne
  k_steps
  rename (_ = decL c.toNat) => hy
  rename (_ = joinL _ _) => hz
  have hy' := dec_one hy h1
  refine hret _ news _ _ (by k_asm) (kst_newsOf (by k_asm) fun p hp => .tail _ hp) ⟨⟨_, _, rfl, ?_, ?_⟩, rfl⟩
  · rw [hz, List.map_cons, List.map_nil, hy]
    rfl
  · rename (_ ≤ _ + 0 + (0 + 1) * 1) => hl
    have e : Str.length _ = 1 := (len_eq _).trans (congrArg List.length hy')
    rw [e] at hl
    omega
set_option maxRecDepth 100000 in
set_option maxHeartbeats 8000000 in
theorem row_of_none {w : World} {mean : ExcName → Option Value} {mg mb : Str → Option Value} {news : List (Addr × Obj)} {C : Addr} {k : Nat}
    (hC : (C, tup [] k) ∈ news) :
    Does w mean mg mb 239 [.ref C] 4 news (fun r news' => (∃ t, r = .str (Str.ofString "-") t) ∧ news' = news) := by
  k_with_none
  k_with "call builtin:str.join" => (k_here; (with_reducible show wpAny _ _ (call (Value.builtin "str.join") [Value.str _ _, Value.ref _]) _ _ _); k_dflt (refine' join_fresh (News.isList ?hN (.head _)) ?hi ?hok ?_; (case hN => k_asm); (case hi => first | exact strs1 | exact strs2 | exact strs3); (case hok => (simp only [List.map_cons, List.map_nil, List.sum_cons, List.sum_nil, List.length_cons, List.length_nil, len_space, len_minus, len_word]; omega))); intro zZ tzZ kzZ hz1Z hz2Z; (simp only [List.map_cons, List.map_nil, List.sum_cons, List.sum_nil, List.length_cons, List.length_nil, len_space, len_minus, len_word] at hz2Z))
  k_with "eval ListComp" => (k_here; k_dflt (refine ListComp_tup (F₀ := by k_asm) (by with_unfolding_all rfl) (by decide) (by rfl) (by decide) (by rfl) ?_))
  k_with "call type:str" => (k_here; (with_reducible show wpAny _ _ (call (Value.type "str") [Value.int _ _]) _ _ _); (refine' str_big (n := Int.toNat _) (Int.toNat_of_nonneg (by omega)).symm rfl (no_digits ?hF ?hT) ?hb ?_); (case hF => assumption); (case hT => assumption); (case hb => exact Nat.lt_of_lt_of_le (m := 10) (by omega) small_big); intro yZ hy1Z hy2Z hy3Z)
  unfold Does
  k_fill
  intro dp un gd cn cs a ccd cl outer A₀ base h₀ L m s Q E B F X N T hk hdp hun hret
  refine wpAny_call ?_
  k_dflt ktr_enter
  k_steps
  refine hret _ _ _ _ (by k_asm) (by k_asm) ⟨⟨_, rfl⟩, rfl⟩
open PySem PySem.W PyProof.Rows PyProof PySem.Calls
set_option maxRecDepth 100000 in
set_option maxHeartbeats 8000000 in
set_option pp.deepTerms false in
set_option pp.deepTerms.threshold 8 in
theorem is_tidy_does {w : World} {mean : ExcName → Option Value} {mg mb : Str → Option Value} {news : List (Addr × Obj)} {c : Int} {t : Tok} {C : Addr} {k : Nat}
    (hc : c ≠ 0) (hC : (C, tup [.int c t] k) ∈ news) :
    Does w mean mg mb 100 [.ref C] 2 news (fun r news' => r = .bool true ∧ news' = news) := by
  k_with_none
  unfold Does
  k_fill
  intro dp un gd cn cs a ccd cl outer A₀ base h₀ L m s Q E B F X N T hk hdp hun hret
  refine wpAny_call ?_
  k_dflt ktr_enter
  k_steps
  · contradiction
  · refine ⟨_, _, _, news, rfl, by k_asm, by k_asm, ?_, ?_⟩
    · rename (∀ p ∈ news, p.1 < _) => hlt
      exact fun p hp => Nat.ne_of_lt (hlt p hp)
    k_steps
    exact hret _ _ _ _ (by k_asm) (by k_asm) ⟨rfl, rfl⟩
local macro_rules | `(tactic| k_all) => `(tactic| assumption)
section
variable {prog : Program} {w : World} {A : Around} {E : Value → Shared → Prop} {s : Shared} {h₀ : Heap} {L : Addr} {m : Str → Option Value}
set_option maxRecDepth 100000 in
theorem known_rule {t : Tok} {Q : Value → Shared → Prop} (F : Fr h₀ L s.heap m) (X : (Kw w.params).In h₀) (h : Q (.bool false) s) :
    wpAny (model prog w) A (compareOp .NotIn (.str (Str.ofString "input") t) (.ref 93)) Q E s := by
  refine notin_tuple_strs (kun_topT F X (by k_is)) (by kde_strs) ?_
  exact (congrArg (fun b => Q (.bool b) s) (show (!(List.any _ _)) = false by decide +kernel)).mpr h
theorem iter_none {env : Env} {ax : Addr} {k : Nat} {news : List (Addr × Obj)} {x : Str} {body : List Stmt} {Q : Flow → Shared → Prop}
    (hh : A.handled = none) (F : Fr h₀ env.locals s.heap m) (N : News h₀ env.locals s.heap news) (hm : (ax, tup [] k) ∈ news)
    (h : ∀ h' tk, Fr h₀ env.locals h' m → News h₀ env.locals h' news → Q .next { s with heap := h', toks := tk }) :
    wpAny (model prog w) A (pyIter (.ref ax)) (fun it s₂ => LoopAt3 prog w A h₀ env x body Q E it s₂) E s := by
  have hax := N _ hm
  have hl : s.heap.IsTuple ax (List.toArray []) := ⟨_, hax.1, rfl, _, rfl⟩
  have hlt : ax < s.heap.objs.size := Heap.lt_size hax.1
  refine wpAny_pyIter_tuple hl ?_
  have up : ∀ b o, s.heap.get? b = some o → (s.heap.push { cls := .type "tuple_iterator", data := .fields #[.ref ax, .int 0 0] }).get? b = some o := fun b o e => Heap.get?_push_of_some _ e
  refine ⟨_, [s.heap.objs.size, ax], [s.heap.objs.size], _, _, _, m, news, fun _ m' n' => m' = m ∧ n' = news, rfl, Walks.tuple hh s.heap.objs.size ax (Nat.ne_of_lt hlt) (List.toArray []), ?_, ?_, ?_, ⟨⟨_, Heap.get?_push_size _ rfl, rfl, rfl⟩, hl.at fun o e => up _ _ e⟩, F.keeps up, N.grown up, ⟨rfl, rfl⟩, ?_, ?_⟩
  · intro hI
    rcases List.mem_cons.mp hI with e | hI
    · exact absurd F.ns.lt (e ▸ Nat.lt_irrefl _)
    · exact hax.2.1 (List.mem_singleton.mp hI).symm
  · intro b hb
    rw [List.mem_singleton.mp hb]
    exact next_is_new F
  · intro p hp hI
    exact absurd (Heap.lt_size (N p hp).1) ((List.mem_singleton.mp hI) ▸ Nat.lt_irrefl _)
  · intro i v m₁ news₁ s₁ own _ hi
    exact absurd hi (Nat.not_lt_zero _)
  · rintro h' tk m' news' F' N' _ ⟨rfl, rfl⟩
    exact h h' tk F' N'
end
local macro_rules | `(tactic| walk_at "pyIter ref") => `(tactic| ((with_reducible show wpAny _ _ (pyIter (Value.ref _)) (fun it s₂ => LoopAt3 _ _ _ _ _ _ _ _ _ it s₂) _ _); k_here; (rename Fr _ _ _ _ => lF'); (rename News _ _ _ _ => lN'); (refine' iter_none ?hh lF' lN' ?hm ?_); (case hh => rfl); (case hm => k_mem); clear lF' lN'; intro h9 tk9 lF9 lN9; (try dsimp only)))
theorem small_seq {vs : List Value} (hvs : vs.length ≤ 100) : vs.toArray.size ≤ sizeLine := by
  rw [List.size_toArray]; exact Nat.le_trans hvs (by decide)
local macro_rules | `(tactic| size_fits) => `(tactic| exact small_seq (by assumption))
theorem small_count {n : Nat} {vs : List Value} (hvs : vs.length ≤ n) (hn : n ≤ 16384) : (vs.toArray.size : Int) ≤ 16384 := by
  rw [List.size_toArray]; omega
set_option maxRecDepth 100000 in
set_option maxHeartbeats 8000000 in
set_option pp.deepTerms false in
set_option pp.deepTerms.threshold 8 in
theorem add_does {w : World} {mean : ExcName → Option Value} {mg mb : Str → Option Value} {rest : List (Addr × Obj)} {x dx l nl C P : Addr} {es : List DictEntry} {ne cnt kc kp : Nat} {vs : List Value} {nv : Value} {c em : Int} {t tc te t1 t2 t3 : Tok}
    (hx : (x, instObj 227 dx) ∈ rest) (hdx : (dx, dictOf [⟨PyData.keyHash w.params (Str.ofString "steps"), .str (Str.ofString "steps") t1, .ref l⟩, ⟨PyData.keyHash w.params (Str.ofString "named"), .str (Str.ofString "named") t2, .ref nl⟩, ⟨PyData.keyHash w.params (Str.ofString "empty"), .str (Str.ofString "empty") t3, .int em te⟩] ne) ∈ rest)
    (hC : (C, tup [.int c tc] kc) ∈ rest) (hP : (P, tup [] kp) ∈ rest) (hc : c ≠ 0) (hne : ∀ p ∈ rest, p.1 ≠ l) (hvs : vs.length ≤ 100) :
    Does w mean mg mb 163 [Value.ref x, Value.str (Str.ofString "input") t, Value.ref C, Value.ref P, nv] 6 ((l, W.listOf vs.toArray cnt) :: rest) (fun r news' => ∃ T t9, r = .int (vs.length : Int) t9 ∧ news' = (T, tup [Value.str (Str.ofString "input") t, Value.ref C, Value.ref P, nv] 0) :: (l, W.listOf (vs ++ [Value.ref T]).toArray (cnt + 1)) :: rest ∧ (l < T ∧ ∀ p ∈ rest, p.1 < T)) := by
  k_with_none
  k_with "call type:tuple" => (k_here; (with_reducible show wpAny _ _ (call (Value.type _) [Value.ref _]) _ _ _); (refine' call_tuple_tup (News.isTup (by k_asm) (by k_mem)) ?_))
  k_with "compareOp NotIn str ref" => (k_here; k_dflt (refine' known_rule ?k1 ?k2 ?_; (case k1 => k_asm); (case k2 => k_asm)))
  k_with "call builtin:len" => (k_here; (with_reducible show wpAny _ _ (call (Value.builtin "len") [Value.ref _]) _ _ _); k_dflt (refine' kun_lenL (items := List.toArray _) (k := Int.ofNat _) ?k1 ?k2 ?k3 ?_; (case k1 => exact News.isList (by k_asm) (by k_mem)); (case k2 => exact rfl); (case k3 => exact small_count (by assumption) (by decide)); k_whole))
  k_with "call ref" => (k_here; (with_reducible show wpAny _ _ (call (Value.ref 100) [Value.ref _]) _ _ _); k_dflt (refine' does_use (is_tidy_does ?h0 ?hI) ?k1 ?k2 ?k3 ?k4 ?k5 ?kK ?kd ?ku ?_; (case k1 => k_asm); (case k2 => k_asm); (case k3 => k_asm); (case k4 => k_asm); (case k5 => k_asm); (case kK => exact rfl); (case hI => k_mem); (case h0 => assumption); (case kd => ktr_room); (case ku => ktr_units)); intro v9Z news9Z h9Z tk9Z F9Z N9Z hp9Z; (obtain ⟨e9Z, en9Z⟩ := hp9Z; subst e9Z en9Z); (try dsimp only); (try k_fold))
  unfold Does
  k_fill
  intro dp un gd cn cs a ccd cl outer A₀ base h₀ L m s Q E B F X N T hk hdp hun hret
  refine wpAny_call ?_
  k_dflt ktr_enter
  k_steps
  rename News h₀ L _ _ => hN
  rename (l < _ ∧ AllLt _ _) => hlt
  rw [List.push_toArray] at hN
  exact hret _ _ _ _ (by k_asm) hN ⟨_, _, by rw [List.size_toArray]; rfl, rfl, hlt.1, ktn_ltOf hlt.2⟩
end Mine
end
section
open PySem PySem.W PyProof.Rows PyProof PySem.Calls
namespace Mine
/-- one step of a proof in the ledger: rule 'input', the clause (c,), no premises, its note -/
def StepAt (news : List (Addr × Obj)) (c : Int) (v : Value) (nt : Note) : Prop :=
  ∃ T C P nv t0 t1 kc kp, v = .ref T ∧ (T, tup [.str (Str.ofString "input") t0, .ref C, .ref P, nv] 0) ∈ news ∧ (C, tup [.int c t1] kc) ∈ news ∧ (P, tup [] kp) ∈ news ∧ NoteAt news nv nt
def StepsAt (news : List (Addr × Obj)) (vs : List Value) (nts : List Note) : Prop :=
  vs.length = nts.length ∧ ∀ (i : Nat) nt, nts[i]? = some nt → ∃ v, vs[i]? = some v ∧ StepAt news ((i : Int) + 1) v nt
theorem NoteAt.mono {a b : List (Addr × Obj)} (h : ∀ p ∈ a, p ∈ b) {v : Value} {nt : Note} (H : NoteAt a v nt) : NoteAt b v nt := by
  cases nt with
  | num n => exact H
  | pair x y =>
    obtain ⟨D, t1, t2, k, e, hD⟩ := H
    exact ⟨D, t1, t2, k, e, h _ hD⟩
  | deep x =>
    obtain ⟨D, D2, t1, t2, k, k2, e, hD, hD2⟩ := H
    exact ⟨D, D2, t1, t2, k, k2, e, h _ hD, h _ hD2⟩
theorem StepAt.mono {a b : List (Addr × Obj)} (h : ∀ p ∈ a, p ∈ b) {c : Int} {v : Value} {nt : Note} (H : StepAt a c v nt) : StepAt b c v nt := by
  obtain ⟨T, C, P, nv, t0, t1, kc, kp, e, h1, h2, h3, h4⟩ := H
  exact ⟨T, C, P, nv, t0, t1, kc, kp, e, h _ h1, h _ h2, h _ h3, h4.mono h⟩
theorem StepsAt.mono {a b : List (Addr × Obj)} (h : ∀ p ∈ a, p ∈ b) {vs : List Value} {nts : List Note} (H : StepsAt a vs nts) : StepsAt b vs nts :=
  ⟨H.1, fun i nt e => (H.2 i nt e).imp fun _ r => ⟨r.1, r.2.mono h⟩⟩
theorem StepsAt.nil {a : List (Addr × Obj)} : StepsAt a [] [] := ⟨rfl, fun i nt e => by simp at e⟩
theorem StepsAt.snoc {a : List (Addr × Obj)} {vs : List Value} {nts : List Note} {v : Value} {nt : Note} {n : Nat} (H : StepsAt a vs nts) (hn : nts.length = n) (h : StepAt a ((n : Int) + 1) v nt) : StepsAt a (vs ++ [v]) (nts ++ [nt]) := by
  refine ⟨by rw [List.length_append, List.length_append, H.1]; rfl, fun i x e => ?_⟩
  rcases Nat.lt_trichotomy i nts.length with hi | hi | hi
  · rw [List.getElem?_append_left hi] at e
    obtain ⟨y, e1, e2⟩ := H.2 i x e
    exact ⟨y, by rw [List.getElem?_append_left (by rw [H.1]; exact hi)]; exact e1, e2⟩
  · subst hi
    rw [List.getElem?_append_right (Nat.le_refl _), Nat.sub_self] at e
    simp at e
    subst e
    exact ⟨v, by rw [← H.1, List.getElem?_append_right (Nat.le_refl _), Nat.sub_self]; rfl, hn ▸ h⟩
  · rw [List.getElem?_eq_none (by rw [List.length_append]; simp; omega)] at e
    exact nomatch e
def barL : List Nat := [32, 124, 32]
/-- the text of one step -/
def rowL (i : Nat) (nt : Note) : List Nat :=
  [115, 116, 101, 112, 32] ++ (decL i ++ ([32, 105, 110, 112, 117, 116, 32, 124, 32] ++ (decL (i + 1) ++ ([32, 124, 32, 45, 32, 124, 32] ++ noteL nt))))
def rowsL : Nat → List Note → List (List Nat)
  | _, [] => []
  | i, n :: r => rowL i n :: rowsL (i + 1) r
theorem rowsL_snoc (n : Note) : ∀ (l : List Note) (i : Nat), rowsL i (l ++ [n]) = rowsL i l ++ [rowL (i + l.length) n]
  | [], _ => rfl
  | m :: r, i => by
    show rowL i m :: rowsL (i + 1) (r ++ [n]) = _
    rw [rowsL_snoc n r (i + 1)]
    show _ = rowL i m :: (rowsL (i + 1) r ++ _)
    rw [List.length_cons, Nat.add_assoc, Nat.add_comm 1]
theorem rowsL_length : ∀ (l : List Note) (i : Nat), (rowsL i l).length = l.length
  | [], _ => rfl
  | _ :: r, i => congrArg (· + 1) (rowsL_length r (i + 1))
theorem take_snoc {α : Type} {l : List α} {i : Nat} {x : α} (h : l[i]? = some x) : l.take (i + 1) = l.take i ++ [x] := by
  rw [List.take_add_one, h]; rfl
end Mine
end
section
open PySem PySem.W PyProof.Rows PyProof PySem.Calls
namespace Mine
open PyProof.Rows.LCg
local macro_rules | `(tactic| k_mem) => `(tactic| with_unfolding_all assumption)
local macro_rules | `(tactic| k_all) => `(tactic| assumption)
set_option maxRecDepth 100000 in
set_option maxHeartbeats 8000000 in
set_option pp.deepTerms false in
set_option pp.deepTerms.threshold 8 in
theorem var_count_does {w : World} {mean : ExcName → Option Value} {mg mb : Str → Option Value} {news : List (Addr × Obj)} {x dx l nl : Addr} {ne cn1 : Nat} {em : Int} {te t1 t2 t3 tn : Tok}
    (hx : (x, instObj 227 dx) ∈ news) (hdx : (dx, dictOf [⟨PyData.keyHash w.params (Str.ofString "steps"), .str (Str.ofString "steps") t1, .ref l⟩, ⟨PyData.keyHash w.params (Str.ofString "named"), .str (Str.ofString "named") t2, .ref nl⟩, ⟨PyData.keyHash w.params (Str.ofString "empty"), .str (Str.ofString "empty") t3, .int em te⟩] ne) ∈ news)
    (hnl : (nl, W.listOf #[.int 0 tn] cn1) ∈ news) :
    Does w mean mg mb 135 [.ref x] 2 news (fun r news' => (∃ t, r = .int 0 t) ∧ news' = news) := by
  k_with_none
  k_with "call builtin:len" => (k_here; (with_reducible show wpAny _ _ (call (Value.builtin "len") [Value.ref _]) _ _ _); k_dflt (refine' kun_lenL (items := List.toArray _) (k := Int.ofNat _) ?k1 ?k2 ?k3 ?_; (case k1 => exact News.isList (by k_asm) (by k_mem)); (case k2 => exact rfl); (case k3 => exact small_count (by assumption) (by decide)); k_whole))
  unfold Does
  k_fill
  intro dp un gd cn cs a ccd cl outer A₀ base h₀ L m s Q E B F X N T hk hdp hun hret
  refine wpAny_call ?_
  k_dflt ktr_enter
  k_steps
  exact hret _ _ _ _ (by k_asm) (by k_asm) ⟨⟨_, rfl⟩, rfl⟩
set_option maxRecDepth 100000 in
set_option maxHeartbeats 8000000 in
set_option pp.deepTerms false in
set_option pp.deepTerms.threshold 8 in
theorem size_does {w : World} {mean : ExcName → Option Value} {mg mb : Str → Option Value} {news : List (Addr × Obj)} {x dx l nl : Addr} {ne cnt : Nat} {vs : List Value} {em : Int} {te t1 t2 t3 : Tok}
    (hx : (x, instObj 227 dx) ∈ news) (hdx : (dx, dictOf [⟨PyData.keyHash w.params (Str.ofString "steps"), .str (Str.ofString "steps") t1, .ref l⟩, ⟨PyData.keyHash w.params (Str.ofString "named"), .str (Str.ofString "named") t2, .ref nl⟩, ⟨PyData.keyHash w.params (Str.ofString "empty"), .str (Str.ofString "empty") t3, .int em te⟩] ne) ∈ news)
    (hl : (l, W.listOf vs.toArray cnt) ∈ news) (hvs : vs.length ≤ 100) :
    Does w mean mg mb 142 [.ref x] 2 news (fun r news' => (∃ t, r = .int (vs.length : Int) t) ∧ news' = news) := by
  k_with_none
  k_with "call builtin:len" => (k_here; (with_reducible show wpAny _ _ (call (Value.builtin "len") [Value.ref _]) _ _ _); k_dflt (refine' kun_lenL (items := List.toArray _) (k := Int.ofNat _) ?k1 ?k2 ?k3 ?_; (case k1 => exact News.isList (by k_asm) (by k_mem)); (case k2 => exact rfl); (case k3 => exact small_count (by assumption) (by decide)); k_whole))
  unfold Does
  k_fill
  intro dp un gd cn cs a ccd cl outer A₀ base h₀ L m s Q E B F X N T hk hdp hun hret
  refine wpAny_call ?_
  k_dflt ktr_enter
  k_steps
  exact hret _ _ _ _ (by k_asm) (by k_asm) ⟨⟨_, by rw [List.size_toArray]; rfl⟩, rfl⟩
local macro_rules | `(tactic| walk_at "pyIter ref") => `(tactic| refine stop ?_)
theorem list_step : (Str.ofString "step ").cps.toList = [115, 116, 101, 112, 32] := by decide +kernel
theorem list_input : (Str.ofString "input").cps.toList = [105, 110, 112, 117, 116] := by decide +kernel
theorem list_bar : (Str.ofString " | ").cps.toList = [32, 124, 32] := by decide +kernel
theorem len_step : (Str.ofString "step ").length = 5 := by decide +kernel
theorem len_input : (Str.ofString "input").length = 5 := by decide +kernel
theorem len_bar : (Str.ofString " | ").length = 3 := by decide +kernel
section
variable {prog : Program} {w : World} {A : Around} {E : Value → Shared → Prop} {s : Shared} {t : Tok}
theorem field_num {a : Int} {Q : Value → Shared → Prop} (n : Nat) (e : a = (n : Int)) (hn : n < 100) (h : ∀ (y : Str) t k, y.cps.toList = decL n → y.length ≤ 2 → Q (.str y t) { s with toks := k }) :
    wpAny (model prog w) A (formatField (.int a t) Str.empty) Q E s := by
  subst e
  refine wpAny_formatField_int (Nat.lt_of_le_of_lt (Nat.log2_le_self _) ?_) (h _ _ _ (KIN.signs_num n) ?_)
  · rw [Int.natAbs_natCast]; omega
  · rw [len_eq]
    have e := congrArg List.length (KIN.signs_num n)
    exact Nat.le_trans (Nat.le_of_eq e) (decL_len (k := 1) (n := n) (by omega))
theorem field_text {x : Str} {Q : Value → Shared → Prop} (hx : x.length ≤ 50000) (h : ∀ t' k, Q (.str x t') { s with toks := k }) :
    wpAny (model prog w) A (formatField (.str x t) Str.empty) Q E s :=
  SB.field_str h (Nat.le_trans hx (by rw [sizeLine_eq]; decide))
end
theorem NoteAt.cons {x : Addr × Obj} {a : List (Addr × Obj)} {v : Value} {nt : Note} (H : NoteAt a v nt) : NoteAt (x :: a) v nt := H.mono fun _ hp => List.mem_cons_of_mem _ hp
theorem item_at {vs : List Value} {i : Nat} {k : Int} {v : Value} (hv : vs[i]? = some v) (e : k.toNat = i) : vs.toArray[k.toNat]? = some v := by
  rw [List.getElem?_toArray, e]; exact hv
local macro_rules | `(tactic| size_fits) => `(tactic| exact small_seq (by assumption))
structure TxtS where
  ys : List Str
  rv : List Value
  cnt : Nat
def TxtS.more (g : TxtS) (v : Value) : TxtS := ⟨g.ys ++ (match v with | .str z _ => [z] | _ => []), g.rv ++ [v], g.cnt + 1⟩
set_option maxRecDepth 100000 in
set_option maxHeartbeats 8000000 in
set_option pp.deepTerms false in
set_option pp.deepTerms.threshold 8 in
theorem proof_text_does {w : World} {mean : ExcName → Option Value} {mg mb : Str → Option Value} {news : List (Addr × Obj)} {x dx l nl : Addr} {ne cnt cn1 : Nat} {vs : List Value} {nts : List Note} {em : Int} {te t1 t2 t3 tn : Tok}
    (hx : (x, instObj 227 dx) ∈ news) (hdx : (dx, dictOf [⟨PyData.keyHash w.params (Str.ofString "steps"), .str (Str.ofString "steps") t1, .ref l⟩, ⟨PyData.keyHash w.params (Str.ofString "named"), .str (Str.ofString "named") t2, .ref nl⟩, ⟨PyData.keyHash w.params (Str.ofString "empty"), .str (Str.ofString "empty") t3, .int em te⟩] ne) ∈ news)
    (hl : (l, W.listOf vs.toArray cnt) ∈ news) (hnl : (nl, W.listOf #[.int 0 tn] cn1) ∈ news) (hs : StepsAt news vs nts) (hlen : nts.length ≤ 3) (hvs : vs.length ≤ 100) (hsm : ∀ nt ∈ nts, nt.small) :
    Does w mean mg mb 246 [.none, .ref x] 18 news (fun r news' => (∃ y t, r = .str y t ∧ y.cps.toList = joinL [10] (rowsL 0 nts) ∧ y.length ≤ 100000) ∧ news' = news) := by
  k_with_none
  k_with "call builtin:len" => (k_here; (with_reducible show wpAny _ _ (call (Value.builtin "len") [Value.ref _]) _ _ _); k_dflt (refine' kun_lenL (items := List.toArray _) (k := Int.ofNat _) ?k1 ?k2 ?k3 ?_; (case k1 => exact News.isList (by k_asm) (by k_mem)); (case k2 => exact rfl); (case k3 => exact small_count (by assumption) (by decide)); k_whole))
  k_with "call ref" => (k_here; (try dsimp only [List.cons_append, List.nil_append]); (with_reducible show wpAny _ _ (call (Value.ref 135) [Value.ref _]) _ _ _); k_dflt (refine' does_use (var_count_does ?h1 ?h2 ?h3) ?k1 ?k2 ?k3 ?k4 ?k5 ?kK ?kd ?ku ?_; (case k1 => k_asm); (case k2 => k_asm); (case k3 => k_asm); (case k4 => k_asm); (case k5 => k_asm); (case kK => exact rfl); (case h1 => (first | exact List.Mem.tail _ (by assumption) | exact List.Mem.tail _ (List.Mem.tail _ (by assumption)) | assumption)); (case h2 => (first | exact List.Mem.tail _ (by assumption) | exact List.Mem.tail _ (List.Mem.tail _ (by assumption)) | assumption)); (case h3 => (first | exact List.Mem.tail _ (by assumption) | exact List.Mem.tail _ (List.Mem.tail _ (by assumption)) | assumption)); (case kd => ktr_room); (case ku => ktr_units)); intro v9Z news9Z h9Z tk9Z F9Z N9Z hp9Z; (obtain ⟨⟨t9Z, e9Z⟩, en9Z⟩ := hp9Z; subst e9Z en9Z); (try dsimp only); (try k_fold))
  k_with "call ref" => (k_here; (try dsimp only [List.cons_append, List.nil_append]); (with_reducible show wpAny _ _ (call (Value.ref 142) [Value.ref _]) _ _ _); k_dflt (refine' does_use (size_does ?h1 ?h2 ?h3 ?h4) ?k1 ?k2 ?k3 ?k4 ?k5 ?kK ?kd ?ku ?_; (case k1 => k_asm); (case k2 => k_asm); (case k3 => k_asm); (case k4 => k_asm); (case k5 => k_asm); (case kK => exact rfl); (case h1 => (first | exact List.Mem.tail _ (by assumption) | exact List.Mem.tail _ (List.Mem.tail _ (by assumption)) | assumption)); (case h2 => (first | exact List.Mem.tail _ (by assumption) | exact List.Mem.tail _ (List.Mem.tail _ (by assumption)) | assumption)); (case h3 => (first | exact List.Mem.tail _ (by assumption) | exact List.Mem.tail _ (List.Mem.tail _ (by assumption)) | assumption)); (case h4 => assumption); (case kd => ktr_room); (case ku => ktr_units)); intro v9Z news9Z h9Z tk9Z F9Z N9Z hp9Z; (obtain ⟨⟨t9Z, e9Z⟩, en9Z⟩ := hp9Z; subst e9Z en9Z); (try dsimp only); (try k_fold))
  k_with "call type:range" => ((rename Fr _ _ _ _ => F'Z); (rename News _ _ _ _ => N'Z); first | (with_unfolding_all refine range1_rows F'Z N'Z ?_; intro _ _ _ _ _ _ _ _ _) | (with_unfolding_all refine range2_rows F'Z N'Z ?_; intro _ _ _ _ _ _ _ _ _))
  k_with "subscriptTail" => (k_here; (with_reducible rename (_[_]? = some (Value.ref _)) => hvIZ); (with_reducible show wpAny _ _ (subscriptTail _ _ (Value.ref _) (Value.int _ _)) _ _ _); k_dflt (refine' item_listR (items := List.toArray _) (News.isList ?k1 ?k2) ?k3 ?k4 (item_at hvIZ ?k5) ?_ ?k6; (case k1 => k_asm); (case k2 => (first | exact List.Mem.tail _ (by assumption) | exact List.Mem.tail _ (List.Mem.tail _ (by assumption)) | assumption)); (case k3 => omega); (case k4 => omega); (case k5 => omega); (case k6 => with_unfolding_all rfl)))
  k_with "formatField int" => (k_here; (refine' field_num (Int.toNat _) (Int.toNat_of_nonneg ?k1).symm ?k2 ?_; (case k1 => omega); (case k2 => omega)); intro y9Z t9Z k9Z ey9Z el9Z)
  k_with "formatField str" => (k_here; (refine' field_text ?k1 ?_; (case k1 => first | omega | decide +kernel)); intro t9Z k9Z)
  k_with "call ref" => (k_here; (with_reducible show wpAny _ _ (call (Value.ref 239) [Value.ref _]) _ _ _); k_dflt (refine' does_use (row_of_none ?h1) ?k1 ?k2 ?k3 ?k4 ?k5 ?kK ?kd ?ku ?_; (case k1 => k_asm); (case k2 => k_asm); (case k3 => k_asm); (case k4 => k_asm); (case k5 => k_asm); (case kK => exact rfl); (case h1 => (first | exact List.Mem.tail _ (by assumption) | exact List.Mem.tail _ (List.Mem.tail _ (by assumption)) | assumption)); (case kd => ktr_room); (case ku => ktr_units)); intro v9Z news9Z h9Z tk9Z F9Z N9Z hp9Z; (obtain ⟨⟨t9Z, e9Z⟩, en9Z⟩ := hp9Z; subst e9Z en9Z); (try dsimp only); (try k_fold))
  k_with "call ref" => (k_here; (with_reducible show wpAny _ _ (call (Value.ref 239) [Value.ref _]) _ _ _); k_dflt (refine' does_use (row_of_one ?h2 ?h3 ?h1) ?k1 ?k2 ?k3 ?k4 ?k5 ?kK ?kd ?ku ?_; (case k1 => k_asm); (case k2 => k_asm); (case k3 => k_asm); (case k4 => k_asm); (case k5 => k_asm); (case kK => exact rfl); (case h1 => (first | exact List.Mem.tail _ (by assumption) | exact List.Mem.tail _ (List.Mem.tail _ (by assumption)) | assumption)); (case h2 => omega); (case h3 => omega); (case kd => ktr_room); (case ku => ktr_units)); intro v9Z news9Z h9Z tk9Z F9Z N9Z hp9Z; (obtain ⟨⟨y9Z, t9Z, e9Z, ey9Z, el9Z⟩, en9Z⟩ := hp9Z; subst e9Z en9Z); (try dsimp only); (try k_fold))
  k_with "call ref" => (k_here; (with_reducible show wpAny _ _ (call (Value.ref 234) [_]) _ _ _); (with_reducible rename NoteAt _ _ _ => hnaZ); k_dflt (refine' does_use (note_text_does ?h2 (NoteAt.cons hnaZ)) ?k1 ?k2 ?k3 ?k4 ?k5 ?kK ?kd ?ku ?_; (case k1 => k_asm); (case k2 => k_asm); (case k3 => k_asm); (case k4 => k_asm); (case k5 => k_asm); (case kK => exact rfl); (case h2 => assumption); (case kd => ktr_room); (case ku => ktr_units)); intro v9Z news9Z h9Z tk9Z F9Z N9Z hp9Z; (obtain ⟨⟨y9Z, t9Z, e9Z, ey9Z, el9Z⟩, en9Z⟩ := hp9Z; subst e9Z en9Z); (try dsimp only); (try k_fold))
  k_with "call builtin:str.join" => (k_here; (with_reducible show wpAny _ _ (call (Value.builtin "str.join") [Value.str _ _, Value.ref _]) _ _ _); k_dflt (refine' join_fresh (News.isList (items := List.toArray _) ?hN (.head _)) ?hi ?hok ?_; (case hN => k_asm); (case hi => assumption); (case hok => (simp only [len_nl]; omega))); intro zZ tzZ kzZ hz1Z hz2Z; (simp only [len_nl] at hz2Z))
  unfold Does
  k_fill
  intro dp un gd cn cs a ccd cl outer A₀ base h₀ L m s Q E B F X N T hk hdp hun hret
  refine wpAny_call ?_
  k_dflt ktr_enter
  k_steps
  unfold Stop
  rename IsRange _ _ _ _ _ _ _ _ => rgX
  rename Fr _ _ _ _ => lF'
  rename News _ _ _ _ => lN'
  refine' range_state (σ := Unit) (n := 0) (fun _ => []) [Str.ofString "var", Str.ofString "term"] (fun _ _ => True) () rfl rgX ?hs ?hn lF' lN' ?hk trivial ?turn ?done
  case hk => exact fun p hp => nomatch hp
  case hs => decide
  case hn => decide
  case turn => exact fun g i t u h tk own hi => absurd hi (Nat.not_lt_zero _)
  case done =>
    intro g u h tk _ F' N'
    clear lF' lN' rgX
    k_steps
    unfold Stop
    rename IsRange _ _ _ _ _ _ _ _ => rgX
    rename Fr _ _ _ _ => lF'
    rename News _ _ _ _ => lN'
    rename (∀ p ∈ news, p.1 < _) => hlt
    refine' range_led (σ := TxtS) (n := nts.length) (fun g => (_, W.listOf g.rv.toArray g.cnt) :: news) (fun g => []) [Str.ofString "number", Str.ofString "rule", Str.ofString "clause", Str.ofString "premises", Str.ofString "note"]
      (fun i g => StrsAre g.rv g.ys ∧ g.rv.length = i ∧ (g.ys.map fun y => y.cps.toList) = rowsL 0 (nts.take i) ∧ (g.ys.map (·.length)).sum ≤ 20100 * i)
      ⟨[], [], 0⟩ rfl rgX ?hs ?hn lF' lN' ?hk ⟨.nil, rfl, rfl, Nat.zero_le _⟩ ?turn ?done
    case hk => exact fun p hp => nomatch hp
    case hs => exact small_one (by decide) (by decide) (by omega) (by omega)
    case hn =>
      unfold Builtin.Range.rangeSize
      rw [hs.1]
      simp
      exact fun e => by rw [e]; rfl
    case turn =>
      intro g i t u h tk own hi' hoff hP F' N'
      clear lF' lN' rgX
      obtain ⟨hg1, hg2, hg3, hg4⟩ := hP
      have N2 : News _ _ h ((_, W.listOf g.rv.toArray g.cnt) :: (news ++ own)) := N'
      clear N'
      obtain ⟨v, hv, T, C, P, nv, t0, t1, kc, kp, rfl, hT, hC, hPm, hnv⟩ := hs.2 i _ (List.getElem?_eq_getElem hi')
      have hT' := List.mem_append_left own hT
      have hC' := List.mem_append_left own hC
      have hPm' := List.mem_append_left own hPm
      have hnv' : NoteAt (news ++ own) nv _ := hnv.mono fun p hp => List.mem_append_left own hp
      have hns := hsm _ (List.getElem_mem hi')
      clear hT hC hPm hnv
      have hx' := List.mem_append_left own hx
      have hdx' := List.mem_append_left own hdx
      have hl' := List.mem_append_left own hl
      have hne' := fun (p : Addr × Obj) (hp : p ∈ news ++ own) => (List.mem_append.mp hp).elim (fun h => Nat.ne_of_lt (hlt p h)) fun h => hoff p h _ (.head _)
      have hrv : g.rv.length ≤ 100 := by omega
      k_steps
      rename (_ = noteL _) => e3
      rename (_ = decL (Int.toNat (_ + 1))) => e2
      rename (_ = decL (Int.toNat (0 + _))) => e1
      rename News _ _ _ _ => hN
      rw [List.push_toArray] at hN
      refine' kst_end (g.more _) (by assumption) hN ?en ?eo rfl trivial ?ek ?es ?ep
      case ek => exact fun p hp => nomatch hp
      case en =>
        intro p hp
        rcases List.mem_cons.mp hp with rfl | hp
        · exact .head _
        · exact .tail _ (List.mem_append_left _ hp)
      case eo => exact fun p hp => .tail _ (List.mem_append_right _ hp)
      case es =>
        intro z h1 h2 h3
        simp only [List.contains_cons, List.contains_nil, Bool.or_false, Bool.or_eq_false_iff, beq_eq_false_iff_ne, ne_eq] at h3
        simp [kstB, h1, h3]
      case ep =>
        rw [List.length_replicate]
        refine ⟨StrsAre.append' hg1 (.cons _ _ .nil), ?_, ?_, ?_⟩
        · show (g.rv ++ [_]).length = i + 1
          rw [List.length_append, hg2]; rfl
        · show (g.ys ++ [_]).map _ = _
          rw [take_snoc (List.getElem?_eq_getElem hi'), rowsL_snoc, List.length_take, Nat.min_eq_left (Nat.le_of_lt hi'), ← hg3, List.map_append, List.map_cons, List.map_nil, Nat.zero_add]
          have ei : Int.toNat (0 + (i : Int) * 1) = i := by omega
          have ei' : Int.toNat ((i : Int) + 1) = i + 1 := by omega
          rw [ei] at e1
          rw [ei'] at e2
          simp only [cps_app, e1, e2, e3, list_step, list_bar, list_space, list_input, list_minus, List.append_assoc]
          rfl
        · show ((g.ys ++ [_]).map _).sum ≤ _
          rw [List.map_append, List.sum_append, List.map_cons, List.map_nil, List.sum_cons, List.sum_nil]
          simp only [Str.length_append, len_step, len_bar, len_space, len_input, len_minus]
          omega
    case done =>
      intro g u h tk hP F' N'
      clear lF' lN' rgX
      obtain ⟨hg1, hg2, hg3, hg4⟩ := hP
      have hyl := hg1.length
      k_steps
      refine hret _ news _ _ (by k_asm) (kst_newsOf (by k_asm) fun p hp => .tail _ hp) ⟨⟨_, _, rfl, ?_, ?_⟩, rfl⟩
      · rename (_ = joinL _ _) => hz
        rw [hz, hg3, list_nl, List.take_of_length_le (Nat.le_refl _)]
      · omega
end Mine
end
section
open PySem PySem.W PyProof.Rows PyProof PySem.Calls
namespace Mine
open PySem.NumText (AllDigits digitsVal)
/-! split by one sign -/
theorem joinL_cons (sep a : List Nat) {r : List (List Nat)} (h : r ≠ []) : joinL sep (a :: r) = a ++ sep ++ joinL sep r := by
  cases r with
  | nil => exact absurd rfl h
  | cons b r => rfl
theorem free_cut {c : Nat} : ∀ {a b : List Nat} {u v : List Nat}, c ∉ a → c ∉ b → a ++ c :: u = b ++ c :: v → a = b ∧ u = v
  | [], [], _, _, _, _, h => ⟨rfl, (List.cons.inj h).2⟩
  | [], y :: b, _, _, _, hb, h => absurd ((List.cons.inj h).1 ▸ List.mem_cons_self) hb
  | x :: a, [], _, _, ha, _, h => absurd ((List.cons.inj h).1 ▸ List.mem_cons_self) ha
  | x :: a, y :: b, u, v, ha, hb, h => by
    obtain ⟨h1, h2⟩ := List.cons.inj h
    obtain ⟨e1, e2⟩ := free_cut (fun h => ha (List.mem_cons_of_mem _ h)) (fun h => hb (List.mem_cons_of_mem _ h)) h2
    exact ⟨by rw [h1, e1], e2⟩
theorem joinL_unique {c : Nat} : ∀ {ps qs : List (List Nat)}, ps ≠ [] → qs ≠ [] → (∀ p ∈ ps, c ∉ p) → (∀ q ∈ qs, c ∉ q) → joinL [c] ps = joinL [c] qs → ps = qs
  | [], _, h, _, _, _, _ => absurd rfl h
  | _, [], _, h, _, _, _ => absurd rfl h
  | [p], [q], _, _, _, _, h => by rw [show p = q from h]
  | [p], q :: q2 :: qs, _, _, hp, _, h => by
    refine absurd ?_ (hp p (.head _))
    rw [show p = q ++ [c] ++ joinL [c] (q2 :: qs) from h]
    simp
  | p :: p2 :: ps, [q], _, _, _, hq, h => by
    refine absurd ?_ (hq q (.head _))
    rw [show q = p ++ [c] ++ joinL [c] (p2 :: ps) from h.symm]
    simp
  | p :: p2 :: ps, q :: q2 :: qs, _, _, hp, hq, h => by
    have h' : p ++ c :: joinL [c] (p2 :: ps) = q ++ c :: joinL [c] (q2 :: qs) := by
      have : p ++ [c] ++ joinL [c] (p2 :: ps) = q ++ [c] ++ joinL [c] (q2 :: qs) := h
      simpa using this
    obtain ⟨e1, e2⟩ := free_cut (hp p (.head _)) (hq q (.head _)) h'
    rw [e1, joinL_unique (List.cons_ne_nil _ _) (List.cons_ne_nil _ _) (fun x hx => hp x (.tail _ hx)) (fun x hx => hq x (.tail _ hx)) e2]
theorem join_codes (sep : Str) : ∀ ys : List Str, (Str.join sep ys).cps.toList = joinL sep.cps.toList (ys.map fun y => y.cps.toList) := fun ys => by
  rw [← StrLaws.glued_eq_join]
  exact join_text sep ys
theorem split_ne (x y : Str) : Txt.split x y ≠ [] := by
  unfold Txt.split
  split
  · exact List.cons_ne_nil _ _
  · split
    · exact List.cons_ne_nil _ _
    · rw [StrLaws.partsBetween_eq]
      obtain ⟨p, r, e⟩ := StrLaws.partsFrom_ne x y.length 0 (Builtin.Str.occurrences x y 0 x.length (x.length + 1))
      rw [e]
      exact List.cons_ne_nil _ _
theorem split_codes {x : Str} {c : Nat} {ps : List (List Nat)} (h0 : ps ≠ []) (hf : ∀ p ∈ ps, c ∉ p) (hx : x.cps.toList = joinL [c] ps) : (Txt.split x ⟨#[c]⟩).map (fun y => y.cps.toList) = ps := by
  have h1 := StrLaws.join_split x ⟨#[c]⟩
  have h2 := StrLaws.split_free x c
  have h3 := congrArg (fun y : Str => y.cps.toList) h1
  rw [join_codes, hx] at h3
  refine joinL_unique ?_ h0 (fun p hp => ?_) hf h3
  · intro e
    exact split_ne x _ (List.map_eq_nil_iff.mp e)
  · obtain ⟨y, hy, e⟩ := List.mem_map.mp hp
    exact e ▸ h2 y hy
/-! replace of one sign -/
def repl (c : Nat) (z : List Nat) (l : List Nat) : List Nat := l.flatMap fun d => if d = c then z else [d]
theorem repl_free {c : Nat} {z : List Nat} : ∀ {l : List Nat}, c ∉ l → repl c z l = l
  | [], _ => rfl
  | d :: l, h => by
    have hd : d ≠ c := fun e => h (e ▸ List.mem_cons_self)
    show (if d = c then z else [d]) ++ repl c z l = _
    rw [if_neg hd, repl_free fun e => h (List.mem_cons_of_mem _ e)]
    rfl
theorem repl_app {c : Nat} {z a b : List Nat} : repl c z (a ++ b) = repl c z a ++ repl c z b := List.flatMap_append
theorem repl_one {c : Nat} {z : List Nat} : repl c z [c] = z := by simp [repl]
theorem repl_join {c : Nat} {z : List Nat} : ∀ {ps : List (List Nat)}, (∀ p ∈ ps, c ∉ p) → repl c z (joinL [c] ps) = joinL z ps
  | [], _ => rfl
  | [p], h => repl_free (h p (.head _))
  | p :: q :: ps, h => by
    show repl c z (p ++ [c] ++ joinL [c] (q :: ps)) = p ++ z ++ joinL z (q :: ps)
    rw [repl_app, repl_app, repl_one, repl_free (h p (.head _)), repl_join fun x hx => h x (.tail _ hx)]
theorem replace_codes (x z : Str) (c : Nat) : (Txt.replace x ⟨#[c]⟩ z).cps.toList = repl c z.cps.toList x.cps.toList := by
  rw [StrLaws.replace_one, join_codes]
  have h3 := congrArg (fun y : Str => y.cps.toList) (StrLaws.join_split x ⟨#[c]⟩)
  rw [join_codes] at h3
  rw [← h3, repl_join]
  intro p hp
  obtain ⟨y, hy, e⟩ := List.mem_map.mp hp
  exact e ▸ StrLaws.split_free x c y hy
/-! words -/
abbrev WSt := List (List Nat) × List Nat
def wstep (st : WSt) (c : Nat) : WSt := if Unicode.isSpace c = true then (if st.2 = [] then st else (st.1 ++ [st.2], [])) else (st.1, st.2 ++ [c])
def wfin (st : WSt) : List (List Nat) := if st.2 = [] then st.1 else st.1 ++ [st.2]
def wordsL (l : List Nat) : List (List Nat) := wfin (l.foldl wstep ([], []))
def WRel (a : KWd.St) (b : WSt) : Prop := a.1.map (fun y => y.cps.toList) = b.1 ∧ a.2.cps.toList = b.2
theorem wrel_len {a : KWd.St} {b : WSt} (h : WRel a b) : a.2.length = 0 ↔ b.2 = [] := by
  rw [len_eq, h.2]
  exact List.length_eq_zero_iff
theorem wrel_step {a : KWd.St} {b : WSt} (c : Nat) (h : WRel a b) : WRel (KWd.step a c) (wstep b c) := by
  unfold KWd.step wstep
  by_cases hc : Unicode.isSpace c = true
  · rw [if_pos hc, if_pos hc]
    by_cases h0 : a.2.length = 0
    · rw [if_pos h0, if_pos ((wrel_len h).mp h0)]
      exact h
    · rw [if_neg h0, if_neg fun e => h0 ((wrel_len h).mpr e)]
      exact ⟨by show (a.1 ++ [a.2]).map _ = _; rw [List.map_append, h.1, List.map_cons, List.map_nil, h.2], rfl⟩
  · rw [if_neg hc, if_neg hc]
    exact ⟨h.1, by show (a.2 ++ ⟨#[c]⟩).cps.toList = _; rw [cps_app, h.2]⟩
theorem wrel_fold : ∀ (l : List Nat) {a : KWd.St} {b : WSt}, WRel a b → WRel (l.foldl KWd.step a) (l.foldl wstep b)
  | [], _, _, h => h
  | c :: l, _, _, h => wrel_fold l (wrel_step c h)
theorem words_codes (x : Str) : (Txt.words x).map (fun y => y.cps.toList) = wordsL x.cps.toList := by
  rw [KWd.words_scan]
  have h : WRel (KWd.scan x) (x.cps.toList.foldl wstep ([], [])) := wrel_fold _ ⟨rfl, rfl⟩
  unfold KWd.fin wordsL wfin
  by_cases h0 : (KWd.scan x).2.length = 0
  · rw [if_pos h0, if_pos ((wrel_len h).mp h0)]
    exact h.1
  · rw [if_neg h0, if_neg fun e => h0 ((wrel_len h).mpr e), List.map_append, h.1, List.map_cons, List.map_nil, h.2]
def Solid (l : List Nat) : Prop := ∀ c ∈ l, Unicode.isSpace c = false
theorem fold_solid : ∀ (u : List Nat) (ws : List (List Nat)) (r : List Nat), Solid u → u.foldl wstep (ws, r) = (ws, r ++ u)
  | [], ws, r, _ => by rw [List.append_nil]; rfl
  | c :: u, ws, r, h => by
    rw [List.foldl_cons]
    have e : wstep (ws, r) c = (ws, r ++ [c]) := by
      unfold wstep
      rw [if_neg (by rw [h c (.head _)]; exact Bool.false_ne_true)]
    rw [e, fold_solid u ws _ fun d hd => h d (.tail _ hd), List.append_assoc]
    rfl
theorem wstep_space (ws : List (List Nat)) (r : List Nat) : wstep (ws, r) 32 = if r = [] then (ws, r) else (ws ++ [r], []) := by
  unfold wstep
  rw [if_pos (by decide +kernel)]
theorem solid_digits {l : List Nat} (h : AllDigits l) : Solid l := fun c hc => by
  have := h c hc
  have h2 : ∀ d : Fin 58, 48 ≤ d.val → Unicode.isSpace d.val = false := by decide +kernel
  exact h2 ⟨c, by omega⟩ (by show 48 ≤ c; omega)
end Mine
end
section
open PySem PySem.W PyProof.Rows PyProof PySem.Calls
namespace Mine
open PySem.NumText (AllDigits digitsVal)
/-- signs of a number word -/
def Num (l : List Nat) : Prop := ∀ c ∈ l, c = 45 ∨ (48 ≤ c ∧ c ≤ 57)
theorem num_digits {l : List Nat} (h : AllDigits l) : Num l := fun c hc => .inr (by have := h c hc; omega)
theorem num_cons {l : List Nat} (h : Num l) : Num (45 :: l) := fun c hc => (List.mem_cons.mp hc).elim .inl (h c)
theorem num_of {l : List Nat} {v : Int} (h : NumL l v) : Num l := by
  rcases h with ⟨h1, _, _⟩ | ⟨r, rfl, h1, _, _⟩
  · exact num_digits h1
  · exact num_cons (num_digits h1)
theorem num_ne {l : List Nat} {v : Int} (h : NumL l v) : l ≠ [] := by
  rcases h with ⟨_, h2, _⟩ | ⟨r, rfl, _, _, _⟩
  · exact h2
  · exact List.cons_ne_nil _ _
theorem numL_int (n : Int) : NumL (intL n) n := by
  unfold intL
  by_cases h : n < 0
  · rw [if_pos h]
    refine .inr ⟨_, rfl, decL_digits _, decL_ne _, ?_⟩
    rw [decL_val]; omega
  · rw [if_neg h]
    refine .inl ⟨decL_digits _, decL_ne _, ?_⟩
    rw [decL_val]; omega
theorem numL_dec (n : Nat) : NumL (decL n) n := .inl ⟨decL_digits _, decL_ne _, by rw [decL_val]⟩
theorem num_free {l : List Nat} (h : Num l) {c : Nat} (hc : c < 45 ∨ 57 < c) : c ∉ l := fun e => by
  have := h c e; omega
theorem solid_num {l : List Nat} (h : Num l) : Solid l := fun c hc => by
  have h2 : ∀ d : Fin 58, 45 ≤ d.val → Unicode.isSpace d.val = false := by decide +kernel
  have := h c hc
  exact h2 ⟨c, by omega⟩ (by show 45 ≤ c; omega)
def stepW : List Nat := [115, 116, 101, 112]
def inputW : List Nat := [105, 110, 112, 117, 116]
def wordW : List Nat := [119, 111, 114, 100]
theorem solid_step : Solid stepW := by unfold Solid stepW; decide +kernel
theorem solid_input : Solid inputW := by unfold Solid inputW; decide +kernel
theorem solid_word : Solid wordW := by unfold Solid wordW; decide +kernel
theorem solid_open : Solid [40] := by unfold Solid; decide +kernel
theorem solid_close : Solid [41] := by unfold Solid; decide +kernel
theorem solid_minus : Solid [45] := by unfold Solid; decide +kernel
theorem solid_bar : Solid [124] := by unfold Solid; decide +kernel
/-- a row of a written proof -/
structure RowP where
  l : List Nat
  v : Int
  nt : Note
def partA (i : Nat) : List Nat := stepW ++ 32 :: (decL i ++ 32 :: (inputW ++ 32 :: []))
def partB (r : RowP) : List Nat := 32 :: (r.l ++ 32 :: [])
def partC : List Nat := [32, 45, 32]
def partD (r : RowP) : List Nat := 32 :: noteL r.nt
def rowP (i : Nat) (r : RowP) : List Nat := joinL [124] [partA i, partB r, partC, partD r]
theorem rowL_eq (i : Nat) (nt : Note) : rowL i nt = rowP i ⟨decL (i + 1), i + 1, nt⟩ := by
  unfold rowL rowP partA partB partC partD stepW inputW
  simp [joinL, List.append_assoc]
theorem noteL_free {c : Nat} (nt : Note) (hc : c = 10 ∨ c = 59 ∨ c = 124) : c ∉ noteL nt := by
  have f : ∀ n, c ∉ intL n := fun n => num_free (num_of (numL_int n)) (by omega)
  cases nt with
  | num n => exact f n
  | pair a b =>
    show c ∉ 40 :: (intL a ++ 32 :: (intL b ++ [41]))
    simp only [List.mem_cons, List.mem_append, List.not_mem_nil, or_false, not_or]
    exact ⟨by omega, f a, by omega, f b, by omega⟩
  | deep a =>
    show c ∉ 40 :: 40 :: (intL a ++ [41, 32, 119, 111, 114, 100, 32, 45, 41])
    simp only [List.mem_cons, List.mem_append, List.not_mem_nil, or_false, not_or]
    refine ⟨by omega, by omega, f a, ?_⟩
    omega
theorem partA_free {c : Nat} (i : Nat) (hc : c = 10 ∨ c = 59 ∨ c = 124) : c ∉ partA i := by
  have f := num_free (num_of (numL_dec i)) (c := c) (by omega)
  unfold partA stepW inputW
  simp only [List.mem_cons, List.mem_append, List.not_mem_nil, or_false, not_or]
  refine ⟨by omega, by omega, f, by omega, by omega, by omega⟩
theorem partB_free {c : Nat} {r : RowP} (hr : NumL r.l r.v) (hc : c = 10 ∨ c = 59 ∨ c = 124) : c ∉ partB r := by
  have f := num_free (num_of hr) (c := c) (by omega)
  unfold partB
  simp only [List.mem_cons, List.mem_append, List.not_mem_nil, or_false, not_or]
  exact ⟨by omega, f, by omega⟩
theorem partC_free {c : Nat} (hc : c = 10 ∨ c = 59 ∨ c = 124) : c ∉ partC := by
  unfold partC
  simp only [List.mem_cons, List.not_mem_nil, or_false, not_or]
  omega
theorem partD_free {c : Nat} {r : RowP} (hc : c = 10 ∨ c = 59 ∨ c = 124) : c ∉ partD r := by
  unfold partD
  simp only [List.mem_cons, not_or]
  exact ⟨by omega, noteL_free _ hc⟩
theorem parts_free {c : Nat} {r : RowP} (i : Nat) (hr : NumL r.l r.v) (hc : c = 10 ∨ c = 59 ∨ c = 124) : ∀ p ∈ [partA i, partB r, partC, partD r], c ∉ p := by
  intro p hp
  simp only [List.mem_cons, List.not_mem_nil, or_false] at hp
  rcases hp with rfl | rfl | rfl | rfl
  · exact partA_free i hc
  · exact partB_free hr hc
  · exact partC_free hc
  · exact partD_free hc
theorem rowP_free {c : Nat} {r : RowP} (i : Nat) (hr : NumL r.l r.v) (hc : c = 10 ∨ c = 59) : c ∉ rowP i r := by
  have h := parts_free (c := c) i hr (by omega)
  have h1 := h _ (.head _)
  have h2 := h _ (.tail _ (.head _))
  have h3 := h _ (.tail _ (.tail _ (.head _)))
  have h4 := h _ (.tail _ (.tail _ (.tail _ (.head _))))
  unfold rowP joinL
  simp only [joinL, List.mem_cons, List.mem_append, List.not_mem_nil, or_false, not_or]
  refine ⟨⟨h1, by omega⟩, ⟨h2, by omega⟩, ⟨h3, by omega⟩, h4⟩
theorem fold_space (r : List Nat) (ws : List (List Nat)) : (32 :: r).foldl wstep (ws, []) = r.foldl wstep (ws, []) := by
  rw [List.foldl_cons, wstep_space, if_pos rfl]
theorem fold_word {u : List Nat} (r : List Nat) (ws : List (List Nat)) (hu : Solid u) (h0 : u ≠ []) : (u ++ 32 :: r).foldl wstep (ws, []) = r.foldl wstep (ws ++ [u], []) := by
  rw [List.foldl_append, fold_solid u ws [] hu, List.nil_append, List.foldl_cons, wstep_space, if_neg h0]
theorem fold_last {u : List Nat} (ws : List (List Nat)) (hu : Solid u) (h0 : u ≠ []) : wfin (u.foldl wstep (ws, [])) = ws ++ [u] := by
  rw [fold_solid u ws [] hu, List.nil_append]
  unfold wfin
  rw [if_neg h0]
theorem fold_end (ws : List (List Nat)) : wfin (([] : List Nat).foldl wstep (ws, [])) = ws := rfl
theorem words_A (i : Nat) : wordsL (partA i) = [stepW, decL i, inputW] := by
  unfold wordsL partA
  rw [fold_word _ _ solid_step (by decide), fold_word _ _ (solid_num (num_of (numL_dec i))) (decL_ne i), fold_word _ _ solid_input (by decide), fold_end]
  rfl
theorem words_B {r : RowP} (hr : NumL r.l r.v) : wordsL (partB r) = [r.l] := by
  unfold wordsL partB
  rw [fold_space, fold_word _ _ (solid_num (num_of hr)) (num_ne hr), fold_end]
  rfl
theorem words_C : wordsL partC = [[45]] := by decide +kernel
def openW : List Nat := [32, 40, 32]
def closeW : List Nat := [32, 41, 32]
def noteW : Note → List (List Nat)
  | .num n => [intL n]
  | .pair a b => [[40], intL a, intL b, [41]]
  | .deep a => [[40], [40], intL a, [41], wordW, [45], [41]]
theorem repl_cons {c d : Nat} {z l : List Nat} : repl c z (d :: l) = (if d = c then z else [d]) ++ repl c z l := rfl
theorem words_D (r : RowP) : wordsL (repl 41 closeW (repl 40 openW (partD r))) = noteW r.nt := by
  have f0 : ∀ n, repl 40 openW (intL n) = intL n := fun n => repl_free (num_free (num_of (numL_int n)) (by omega))
  have f1 : ∀ n, repl 41 closeW (intL n) = intL n := fun n => repl_free (num_free (num_of (numL_int n)) (by omega))
  have fs : ∀ n, Solid (intL n) := fun n => solid_num (num_of (numL_int n))
  have fn : ∀ n, intL n ≠ [] := fun n => num_ne (numL_int n)
  unfold partD wordsL
  cases r.nt with
  | num n =>
    show wfin (List.foldl wstep ([], []) (repl 41 closeW (repl 40 openW (32 :: intL n)))) = [intL n]
    rw [repl_cons, if_neg (by decide), f0]
    show wfin (List.foldl wstep ([], []) (repl 41 closeW (32 :: intL n))) = [intL n]
    rw [repl_cons, if_neg (by decide), f1]
    show wfin (List.foldl wstep ([], []) (32 :: intL n)) = [intL n]
    rw [fold_space, fold_last _ (fs n) (fn n)]
    rfl
  | pair a b =>
    have e0 : repl 40 openW (32 :: noteL (.pair a b)) = 32 :: 32 :: 40 :: 32 :: (intL a ++ 32 :: (intL b ++ [41])) := by
      show repl 40 openW (32 :: 40 :: (intL a ++ 32 :: (intL b ++ [41]))) = _
      rw [repl_cons, repl_cons, repl_app, f0, repl_cons, repl_app, f0]
      rfl
    have e1 : repl 41 closeW (32 :: 32 :: 40 :: 32 :: (intL a ++ 32 :: (intL b ++ [41]))) = 32 :: 32 :: ([40] ++ 32 :: (intL a ++ 32 :: (intL b ++ 32 :: ([41] ++ 32 :: [])))) := by
      rw [repl_cons, repl_cons, repl_cons, repl_cons, repl_app, f1, repl_cons, repl_app, f1]
      rfl
    rw [e0, e1, fold_space, fold_space, fold_word _ _ solid_open (by decide), fold_word _ _ (fs a) (fn a), fold_word _ _ (fs b) (fn b), fold_word _ _ solid_close (by decide), fold_end]
    rfl
  | deep a =>
    have e0 : repl 40 openW (32 :: noteL (.deep a)) = 32 :: 32 :: 40 :: 32 :: 32 :: 40 :: 32 :: (intL a ++ [41, 32, 119, 111, 114, 100, 32, 45, 41]) := by
      show repl 40 openW (32 :: 40 :: 40 :: (intL a ++ [41, 32, 119, 111, 114, 100, 32, 45, 41])) = _
      rw [repl_cons, repl_cons, repl_cons, repl_app, f0]
      rfl
    have e1 : repl 41 closeW (32 :: 32 :: 40 :: 32 :: 32 :: 40 :: 32 :: (intL a ++ [41, 32, 119, 111, 114, 100, 32, 45, 41])) = 32 :: 32 :: ([40] ++ 32 :: 32 :: ([40] ++ 32 :: (intL a ++ 32 :: ([41] ++ 32 :: 32 :: (wordW ++ 32 :: ([45] ++ 32 :: ([41] ++ 32 :: []))))))) := by
      rw [repl_cons, repl_cons, repl_cons, repl_cons, repl_cons, repl_cons, repl_cons, repl_app, f1]
      rfl
    rw [e0, e1, fold_space, fold_space, fold_word _ _ solid_open (by decide), fold_space, fold_word _ _ solid_open (by decide), fold_word _ _ (fs a) (fn a), fold_word _ _ solid_close (by decide), fold_space, fold_word _ _ solid_word (by decide), fold_word _ _ solid_minus (by decide), fold_word _ _ solid_close (by decide), fold_end]
    rfl
theorem fold_grow : ∀ (l : List Nat) (ws : List (List Nat)) (r : List Nat), ∃ more, wfin (l.foldl wstep (ws, r)) = ws ++ more
  | [], ws, r => by
    show ∃ more, wfin (ws, r) = _
    unfold wfin
    by_cases h : r = []
    · rw [if_pos h]; exact ⟨[], by simp⟩
    · rw [if_neg h]; exact ⟨[r], rfl⟩
  | c :: l, ws, r => by
    rw [List.foldl_cons]
    by_cases hc : Unicode.isSpace c = true
    · by_cases h : r = []
      · have e : wstep (ws, r) c = (ws, r) := by unfold wstep; rw [if_pos hc, if_pos h]
        rw [e]
        exact fold_grow l ws r
      · have e : wstep (ws, r) c = (ws ++ [r], []) := by unfold wstep; rw [if_pos hc, if_neg h]
        rw [e]
        obtain ⟨more, e⟩ := fold_grow l (ws ++ [r]) []
        exact ⟨r :: more, by rw [e]; simp⟩
    · have e : wstep (ws, r) c = (ws, r ++ [c]) := by unfold wstep; rw [if_neg hc]
      rw [e]
      exact fold_grow l ws (r ++ [c])
/-- the words of a row: 'step' ahead, at least four -/
theorem words_row (i : Nat) (r : RowP) : ∃ more, wordsL (rowP i r) = stepW :: decL i :: inputW :: [124] :: more := by
  have e : rowP i r = stepW ++ 32 :: (decL i ++ 32 :: (inputW ++ 32 :: ([124] ++ 32 :: (r.l ++ 32 :: (124 :: (partC ++ 124 :: partD r)))))) := by
    unfold rowP partA partB stepW inputW
    simp [joinL, List.append_assoc]
  rw [e]
  unfold wordsL
  rw [fold_word _ _ solid_step (by decide), fold_word _ _ (solid_num (num_of (numL_dec i))) (decL_ne i), fold_word _ _ solid_input (by decide), fold_word _ _ solid_bar (by decide)]
  obtain ⟨more, e⟩ := fold_grow (r.l ++ 32 :: (124 :: (partC ++ 124 :: partD r))) ([] ++ [stepW] ++ [decL i] ++ [inputW] ++ [[124]]) []
  exact ⟨more, by rw [e]; rfl⟩
end Mine
end
section
open PySem PySem.W PyProof.Rows PyProof PySem.Calls
namespace Mine
abbrev codes (y : Str) : List Nat := y.cps.toList
theorem strs_cons {vs : List Value} {ys : List Str} {w : List Nat} {ws : List (List Nat)} (h : StrsAre vs ys) (e : ys.map codes = w :: ws) :
    ∃ y t vs' ys', vs = Value.str y t :: vs' ∧ y.cps.toList = w ∧ y.length = w.length ∧ StrsAre vs' ys' ∧ ys'.map codes = ws := by
  cases h with
  | nil => exact nomatch e
  | cons y t r =>
    obtain ⟨e1, e2⟩ := List.cons.inj e
    exact ⟨y, t, _, _, rfl, e1, by rw [len_eq]; exact congrArg List.length e1, r, e2⟩
theorem strs_nil {vs : List Value} {ys : List Str} (h : StrsAre vs ys) (e : ys.map codes = []) : vs = [] := by
  cases h with
  | nil => rfl
  | cons y t r => exact nomatch e
section
variable {prog : Program} {w : World} {A : Around} {E : Value → Shared → Prop} {s : Shared} {h₀ : Heap} {L : Addr} {m : Str → Option Value} {news : List (Addr × Obj)} {x : Str} {t u : Tok} {Q : Value → Shared → Prop}
theorem split_words (F : Fr h₀ L s.heap m) (N : News h₀ L s.heap news) (hsz : x.length ≤ 200000)
    (h : ∀ D vs ys h' k, StrsAre vs ys → ys.map codes = wordsL x.cps.toList → Fr h₀ L h' m → News h₀ L h' ((D, W.listOf vs.toArray 0) :: news) → (∀ p ∈ news, p.1 < D) → Q (.ref D) { s with heap := h', toks := k }) :
    wpAny (model prog w) A (call (.builtin "str.split") [.str x t]) Q E s :=
  KSpl.split0 F N (fun D l h' k e1 e2 F' N' l1 => h D _ _ h' k e2 (by rw [e1]; exact words_codes x) F' N' l1) (by rw [sizeLine_eq]; omega)
theorem split_sign {y : Str} {c : Nat} {ps : List (List Nat)} (hy : y = ⟨#[c]⟩) (F : Fr h₀ L s.heap m) (N : News h₀ L s.heap news) (hsz : x.length ≤ 200000)
    (h0 : ps ≠ []) (hf : ∀ p ∈ ps, c ∉ p) (hx : x.cps.toList = joinL [c] ps)
    (h : ∀ D vs ys h' k, StrsAre vs ys → ys.map codes = ps → Fr h₀ L h' m → News h₀ L h' ((D, W.listOf vs.toArray 0) :: news) → (∀ p ∈ news, p.1 < D) → Q (.ref D) { s with heap := h', toks := k }) :
    wpAny (model prog w) A (call (.builtin "str.split") [.str x t, .str y u]) Q E s := by
  subst hy
  exact KSpl.split1 F N (by rfl) (fun D l h' k e1 e2 F' N' l1 => h D _ _ h' k e2 (by rw [e1]; exact split_codes h0 hf hx) F' N' l1) (by rw [sizeLine_eq]; omega)
open Classical in
theorem eq_strs1 {a b : Addr} {y z : Str} {ta tb : Tok} {na nb : Nat} (N : News h₀ L s.heap news) (ha : (a, W.listOf [Value.str y ta].toArray na) ∈ news) (hb : (b, W.listOf [Value.str z tb].toArray nb) ∈ news) (hu : A.units + 64 < cLine)
    (hy : PyData.strOk y = true) (hz : PyData.strOk z = true) (h : ∀ b : Bool, (b = true ↔ y = z) → Q (.bool b) s) : wpAny (model prog w) A (compareOp .Eq (.ref a) (.ref b)) Q E s := by
  refine kqd_eq N ha rfl rfl (.cons (.str _ _) .nil) (fun _ h => h) hb rfl rfl (.cons (.str _ _) .nil) (fun _ h => h) ?_ ?_ hu (h _ ?_)
  · intro d hd; rw [List.mem_singleton.mp hd]; exact hy
  · intro d hd; rw [List.mem_singleton.mp hd]; exact hz
  · rw [decide_eq_true_eq]
    simp
theorem iter_one {env : Env} {ax : Addr} {k : Nat} {v : Value} {news : List (Addr × Obj)} {x : Str} {body : List Stmt} {Q : Flow → Shared → Prop}
    (hh : A.handled = none) (F : Fr h₀ env.locals s.heap m) (N : News h₀ env.locals s.heap news) (hm : (ax, W.listOf [v].toArray k) ∈ news)
    (step : ∀ h tk own, Fr h₀ env.locals h (fun y => if y = x then some v else m y) → News h₀ env.locals h (own ++ news) →
      wpAny (model prog w) A (execs body env) (LoopStep3 h₀ env.locals own news (fun m' n' => m' = (fun y => if y = x then some v else m y) ∧ n' = news) { s with heap := h, toks := tk } (fun v s' => Q (.ret v) s') fun s' => Q .next s') E { s with heap := h, toks := tk })
    (done : ∀ h' tk, Fr h₀ env.locals h' (fun y => if y = x then some v else m y) → News h₀ env.locals h' news → Q .next { s with heap := h', toks := tk }) :
    wpAny (model prog w) A (pyIter (.ref ax)) (fun it s₂ => LoopAt3 prog w A h₀ env x body Q E it s₂) E s := by
  have hax := N _ hm
  have hl : s.heap.IsList ax (List.toArray [v]) := ⟨_, hax.1, rfl, _, rfl⟩
  have hlt : ax < s.heap.objs.size := Heap.lt_size hax.1
  refine wpAny_pyIter_list hl ?_
  have up : ∀ (o : Obj) b o', s.heap.get? b = some o' → (s.heap.push o).get? b = some o' := fun _ b o e => Heap.get?_push_of_some _ e
  refine ⟨_, [s.heap.objs.size, ax], [s.heap.objs.size], _, _, _, m, news, fun i m' n' => n' = news ∧ m' = if i = 0 then m else fun y => if y = x then some v else m y, rfl, Walks.list hh s.heap.objs.size ax (Nat.ne_of_lt hlt) (List.toArray [v]), ?_, ?_, ?_, ⟨⟨_, Heap.get?_push_size _ rfl, rfl, rfl⟩, hl.at fun o e => up _ _ _ e⟩, F.keeps (up _), N.grown (up _), ⟨rfl, rfl⟩, ?_, ?_⟩
  · intro hI
    rcases List.mem_cons.mp hI with e | hI
    · exact absurd F.ns.lt (e ▸ Nat.lt_irrefl _)
    · exact hax.2.1 (List.mem_singleton.mp hI).symm
  · intro b hb
    rw [List.mem_singleton.mp hb]
    exact next_is_new F
  · intro p hp hI
    exact absurd (Heap.lt_size (N p hp).1) ((List.mem_singleton.mp hI) ▸ Nat.lt_irrefl _)
  · rintro i v' m₁ news₁ s₁ own ⟨h, tk, rfl⟩ hi hP ⟨rfl, rfl⟩ _ _ _ F' N'
    have hi' : i = 0 := Nat.lt_one_iff.mp hi
    subst hi'
    have hv : v' = v := by
      have : [v].toArray[0]? = some v' := hP
      simpa using this.symm
    subst hv
    refine wpAny_mono (step h tk own F' N') (fun f s' H => ?_) fun _ _ e => e
    cases f with
    | next =>
      obtain ⟨_, h', tk', m₂, n₂, e1, F2, N2, e2, hm2, hn2⟩ := H
      exact ⟨rfl, h', tk', m₂, n₂, e1, F2, N2, e2, hn2, hm2⟩
    | cont =>
      obtain ⟨_, h', tk', m₂, n₂, e1, F2, N2, e2, hm2, hn2⟩ := H
      exact ⟨rfl, h', tk', m₂, n₂, e1, F2, N2, e2, hn2, hm2⟩
    | ret v => exact H
    | brk => exact H
  · rintro h' tk m' news' F' N' _ ⟨rfl, rfl⟩
    exact done h' tk F' N'
end
theorem strOk_codes {y : Str} (h : ∀ c ∈ y.cps.toList, c < 1114112) : PyData.strOk y = true := by
  unfold PyData.strOk
  rw [← Array.all_toList, List.all_eq_true]
  exact fun c hc => decide_eq_true (h c hc)
theorem strOk_num {y : Str} (h : Num y.cps.toList) : PyData.strOk y = true := strOk_codes fun c hc => by have := h c hc; omega
theorem strOk_minus : PyData.strOk (Str.ofString "-") = true := by decide +kernel
theorem minus_str {y : Str} (h : y.cps.toList = [45]) : y = Str.ofString "-" := by rw [minus_lit]; exact one_sign h
end Mine
end
section
open PySem PySem.W PyProof.Rows PyProof PySem.Calls
namespace Mine
open PySem.NumText (AllDigits digitsVal)
open PyProof.Rows.LCg
local macro_rules | `(tactic| k_mem) => `(tactic| with_unfolding_all assumption)
set_option maxRecDepth 100000 in
set_option maxHeartbeats 8000000 in
set_option pp.deepTerms false in
set_option pp.deepTerms.threshold 8 in
theorem numbers_in_none {w : World} {mean : ExcName → Option Value} {mg mb : Str → Option Value} {news : List (Addr × Obj)} {x : Str} {wv : Value} {t : Tok}
    (hw : wordsL x.cps.toList = [[45]]) (hx : x.length ≤ 200000) :
    Does w mean mg mb 263 [.str x t, wv] 20 news (fun r news' => ∃ P, r = .ref P ∧ ∃ more, news' = more ++ news ∧ (P, tup [] 0) ∈ news') := by
  k_with_none
  k_with "call builtin:str.split" => refine stop ?_
  k_with "compareOp Eq ref ref" => (k_here; k_dflt (refine' eq_strs1 ?kN (List.Mem.tail _ (List.Mem.head _)) (List.Mem.head _) ?ku ?ky ?kz ?_; (case kN => k_asm); (case ku => ktr_units); (case ky => assumption); (case kz => exact strOk_minus)); intro bEZ hEZ; (rename (¬ _ = Str.ofString "-") => hneqZ); (obtain rfl : bEZ = false := Bool.eq_false_iff.mpr fun e => hneqZ (hEZ.mp e)); clear hEZ)
  k_with "compareOp Eq ref ref" => (k_here; k_dflt (refine' eq_strs1 (y := Str.ofString "-") ?kN (List.Mem.tail _ (List.Mem.head _)) (List.Mem.head _) ?ku ?ky ?kz ?_; (case kN => k_asm); (case ku => ktr_units); (case ky => exact strOk_minus); (case kz => exact strOk_minus)); intro bEZ hEZ; (obtain rfl : bEZ = true := hEZ.mpr rfl); clear hEZ)
  unfold Does
  k_fill
  intro dp un gd cn cs a ccd cl outer A₀ base h₀ L m s Q E B F X N T hk hdp hun hret
  refine wpAny_call ?_
  k_dflt ktr_enter
  k_steps
  unfold Stop
  refine split_words (by k_asm) (by k_asm) hx ?_
  intro D vs ys h' k hs he F' N' hlt
  rw [hw] at he
  obtain ⟨y, ty, vs', ys', rfl, hy, hyl, hs, he⟩ := strs_cons hs he
  obtain rfl := strs_nil hs he
  obtain rfl := minus_str hy
  k_steps
  exact hret _ _ _ _ (by k_asm) (by k_asm) ⟨_, rfl, [_, _, _], rfl, .head _⟩
local macro_rules | `(tactic| walk_at "pyIter ref") => `(tactic| refine stop ?_)
set_option maxRecDepth 100000 in
set_option maxHeartbeats 8000000 in
set_option pp.deepTerms false in
set_option pp.deepTerms.threshold 8 in
theorem numbers_in_one {w : World} {mean : ExcName → Option Value} {mg mb : Str → Option Value} {news : List (Addr × Obj)} {x : Str} {wv : Value} {t : Tok} {l : List Nat} {v : Int}
    (hw : wordsL x.cps.toList = [l]) (hl : NumL l v) (hll : l.length ≤ 5000) (hx : x.length ≤ 200000) :
    Does w mean mg mb 263 [.str x t, wv] 20 news (fun r news' => ∃ C t9, r = .ref C ∧ ∃ more, news' = more ++ news ∧ (C, tup [.int v t9] 0) ∈ news') := by
  k_with_none
  k_with "call builtin:str.split" => refine stop ?_
  k_with "compareOp Eq ref ref" => (k_here; k_dflt (refine' eq_strs1 ?kN (List.Mem.tail _ (List.Mem.head _)) (List.Mem.head _) ?ku ?ky ?kz ?_; (case kN => k_asm); (case ku => ktr_units); (case ky => assumption); (case kz => exact strOk_minus)); intro bEZ hEZ; (rename (¬ _ = Str.ofString "-") => hneqZ); (obtain rfl : bEZ = false := Bool.eq_false_iff.mpr fun e => hneqZ (hEZ.mp e)); clear hEZ)
  k_with "compareOp Eq ref ref" => (k_here; k_dflt (refine' eq_strs1 (y := Str.ofString "-") ?kN (List.Mem.tail _ (List.Mem.head _)) (List.Mem.head _) ?ku ?ky ?kz ?_; (case kN => k_asm); (case ku => ktr_units); (case ky => exact strOk_minus); (case kz => exact strOk_minus)); intro bEZ hEZ; (obtain rfl : bEZ = true := hEZ.mpr rfl); clear hEZ)
  k_with "call ref" => (k_here; (with_reducible show wpAny _ _ (call (Value.ref 251) [Value.str _ _]) _ _ _); k_dflt (refine' does_use (is_number_does ?h1 ?h2) ?k1 ?k2 ?k3 ?k4 ?k5 ?kK ?kd ?ku ?_; (case h1 => assumption); (case k1 => k_asm); (case k2 => k_asm); (case k3 => k_asm); (case k4 => k_asm); (case k5 => k_asm); (case kK => exact rfl); (case h2 => omega); (case kd => ktr_room); (case ku => ktr_units)); intro v9Z news9Z h9Z tk9Z F9Z N9Z hp9Z; (obtain ⟨e9Z, en9Z⟩ := hp9Z; subst e9Z en9Z); (try dsimp only); (try k_fold))
  k_with "call ref" => (k_here; (with_reducible show wpAny _ _ (call (Value.ref 258) [Value.str _ _]) _ _ _); k_dflt (refine' does_use (number_from_does ?h1 ?h2) ?k1 ?k2 ?k3 ?k4 ?k5 ?kK ?kd ?ku ?_; (case h1 => assumption); (case k1 => k_asm); (case k2 => k_asm); (case k3 => k_asm); (case k4 => k_asm); (case k5 => k_asm); (case kK => exact rfl); (case h2 => omega); (case kd => ktr_room); (case ku => ktr_units)); intro v9Z news9Z h9Z tk9Z F9Z N9Z hp9Z; (obtain ⟨⟨t9Z, e9Z⟩, en9Z⟩ := hp9Z; subst e9Z en9Z); (try dsimp only); (try k_fold))
  unfold Does
  k_fill
  intro dp un gd cn cs a ccd cl outer A₀ base h₀ L m s Q E B F X N T hk hdp hun hret
  refine wpAny_call ?_
  k_dflt ktr_enter
  k_steps
  unfold Stop
  refine split_words (by k_asm) (by k_asm) hx ?_
  intro D vs ys h' k hs he F' N' hlt
  rw [hw] at he
  obtain ⟨y, ty, vs', ys', rfl, hy, hyl, hs, he⟩ := strs_cons hs he
  obtain rfl := strs_nil hs he
  have hyn : NumL y.cps.toList v := hy ▸ hl
  have hyo : PyData.strOk y = true := strOk_num (num_of hyn)
  have hyne : ¬ y = Str.ofString "-" := by
    intro e
    rw [e, list_minus] at hyn
    rcases hyn with ⟨h1, _, _⟩ | ⟨r, e, _, h2, _⟩
    · exact absurd (h1 45 (.head _)) (by decide)
    · exact h2 (List.cons.inj e).2.symm
  have hyz : y.length ≤ 5000 := by omega
  k_steps
  unfold Stop
  refine iter_one rfl (by k_asm) (by k_asm) (List.Mem.tail _ (List.Mem.head _)) (fun h tk own F2 N2 => ?_) (fun h tk F2 N2 => ?_)
  · k_steps
  k_steps
  refine ⟨_, _, _, rfl, by k_asm, by k_asm, by assumption, .inr ⟨_, .tail _ (.head _), rfl, _, rfl⟩, ?_⟩
  k_steps
  exact hret _ _ _ _ (by k_asm) (by k_asm) ⟨_, _, rfl, [_, _, _, _], rfl, .head _⟩
end Mine
end
section
open PySem PySem.W PyProof.Rows PyProof PySem.Calls
namespace Mine
open PySem.NumText (AllDigits digitsVal)
open PyProof.Rows.LCg
theorem item0 {x : Value} {l : List Value} : (List.toArray (x :: l))[(0 : Int).toNat]? = some x := rfl
def StopMark : Prop := True
local macro_rules | `(tactic| walk_at "pyIter ref") => `(tactic| (k_here; (with_reducible show wpAny _ _ (pyIter (Value.ref _)) (fun it s₂ => TurnsAt _ _ _ _ _ _ _ _ _ it s₂) _ _); (rename Fr _ _ _ _ => lF'); (rename News _ _ _ _ => lN'); (refine' iter_listTurns (lo := W.listOf (List.toArray _) _) (by rfl) lF' lN' (.head _) (by rfl) (by rfl) ?_); clear lF' lN'; intro i' l1; (try k_lt l1)))
def StopMark2 : Prop := True
theorem repl_len {c : Nat} {z : List Nat} (hz : z.length ≤ 3) : ∀ l : List Nat, (repl c z l).length ≤ 4 * l.length
  | [] => Nat.le_refl _
  | d :: l => by
    have ih := repl_len (c := c) hz l
    rw [repl_cons, List.length_append, List.length_cons]
    by_cases h : d = c
    · rw [if_pos h]; omega
    · rw [if_neg h]; simp only [List.length_cons, List.length_nil]; omega
theorem open_lit : Str.ofString "(" = ⟨#[40]⟩ := by decide +kernel
theorem close_lit : Str.ofString ")" = ⟨#[41]⟩ := by decide +kernel
theorem replace_sign {prog : Program} {w : World} {A : Around} {E : Value → Shared → Prop} {s : Shared} {Q : Value → Shared → Prop} {x y z : Str} {t u v : Tok} {c : Nat} (hy : y = ⟨#[c]⟩) (hp : 1 ≤ s.toks) (hu : u ≠ 0) (hv : v ≠ 0) (huv : u ≠ v) (hyz : (y == z) = false) (hx : x.length ≤ 1048576) (hz : z.length ≤ 3)
    (hq : ∀ x' t' k, x'.cps.toList = repl c z.cps.toList x.cps.toList → x'.length ≤ 4 * x.length → 1 ≤ k → Q (.str x' t') { s with toks := k }) : wpAny (model prog w) A (call (.builtin "str.replace") [.str x t, .str y u, .str z v]) Q E s := by
  subst hy
  refine wpAny_with_toks (n := 1) hp ?_
  exact SC.replaceW hu hv huv hyz hx (by omega) fun t' k hk => hq _ t' k (replace_codes x z c) (by rw [len_eq, replace_codes, len_eq]; exact repl_len (by rw [← len_eq]; exact hz) _) hk
section
variable {S a1 a2 a3 a4 a5 a6 a7 a8 a9 : Addr} {l : List (Addr × Obj)}
theorem tail_ne (h : AllLt S l) : ∀ p ∈ l, p.1 ≠ S := fun p hp => Nat.ne_of_lt (ktn_ltOf h p hp)
theorem tail_ne0 (h : ∀ p ∈ l, p.1 < S) : ∀ p ∈ l, p.1 ≠ S := fun p hp => Nat.ne_of_lt (h p hp)
theorem tail_r1 (h : a1 < S ∧ AllLt S l) : AllLt S l := h.2
theorem tail_r2 (h : a1 < S ∧ a2 < S ∧ AllLt S l) : AllLt S l := h.2.2
theorem tail_r3 (h : a1 < S ∧ a2 < S ∧ a3 < S ∧ AllLt S l) : AllLt S l := h.2.2.2
theorem tail_r4 (h : a1 < S ∧ a2 < S ∧ a3 < S ∧ a4 < S ∧ AllLt S l) : AllLt S l := h.2.2.2.2
theorem tail_r5 (h : a1 < S ∧ a2 < S ∧ a3 < S ∧ a4 < S ∧ a5 < S ∧ AllLt S l) : AllLt S l := h.2.2.2.2.2
theorem tail_r6 (h : a1 < S ∧ a2 < S ∧ a3 < S ∧ a4 < S ∧ a5 < S ∧ a6 < S ∧ AllLt S l) : AllLt S l := h.2.2.2.2.2.2
theorem tail_r7 (h : a1 < S ∧ a2 < S ∧ a3 < S ∧ a4 < S ∧ a5 < S ∧ a6 < S ∧ a7 < S ∧ AllLt S l) : AllLt S l := h.2.2.2.2.2.2.2
theorem tail_r8 (h : a1 < S ∧ a2 < S ∧ a3 < S ∧ a4 < S ∧ a5 < S ∧ a6 < S ∧ a7 < S ∧ a8 < S ∧ AllLt S l) : AllLt S l := h.2.2.2.2.2.2.2.2
theorem tail_r9 (h : a1 < S ∧ a2 < S ∧ a3 < S ∧ a4 < S ∧ a5 < S ∧ a6 < S ∧ a7 < S ∧ a8 < S ∧ a9 < S ∧ AllLt S l) : AllLt S l := h.2.2.2.2.2.2.2.2.2
end
local macro_rules | `(tactic| k_all) => `(tactic| (first | (refine' List.forall_mem_cons.mpr ⟨?a, ?b⟩; (case a => k_ne); (case b => k_all)) | with_reducible assumption | exact tail_ne0 (by with_reducible assumption) | exact tail_ne (tail_r1 (by with_reducible assumption)) | exact tail_ne (tail_r2 (by with_reducible assumption)) | exact tail_ne (tail_r3 (by with_reducible assumption)) | exact tail_ne (tail_r4 (by with_reducible assumption)) | exact tail_ne (tail_r5 (by with_reducible assumption)) | exact tail_ne (tail_r6 (by with_reducible assumption)) | exact tail_ne (tail_r7 (by with_reducible assumption)) | exact tail_ne (tail_r8 (by with_reducible assumption)) | exact tail_ne (tail_r9 (by with_reducible assumption))))
theorem ne_sign {y z : Str} {v : Int} {c : Nat} (h : NumL y.cps.toList v) (hz : z.cps.toList = [c]) (hc : c < 48 ∨ 57 < c) : (y == z) = false := by
  rw [beq_eq_false_iff_ne]
  intro e
  subst e
  rw [hz] at h
  rcases h with ⟨h1, _, _⟩ | ⟨r, e, _, h2, _⟩
  · have := h1 c (.head _)
    omega
  · exact h2 (List.cons.inj e).2.symm
local macro_rules | `(tactic| walk_at "none") => `(tactic| skip)
set_option maxRecDepth 100000 in
set_option maxHeartbeats 8000000 in
set_option pp.deepTerms false in
set_option pp.deepTerms.threshold 8 in
theorem note_from_num {w : World} {mean : ExcName → Option Value} {mg mb : Str → Option Value} {news : List (Addr × Obj)} {x : Str} {wv : Value} {t : Tok} {n : Int}
    (hw : wordsL (repl 41 closeW (repl 40 openW x.cps.toList)) = [intL n]) (hn : (intL n).length ≤ 5000) (hx : x.length ≤ 12000) :
    Does w mean mg mb 270 [.str x t, wv] 20 news (fun r news' => ∃ more, news' = more ++ news ∧ NoteAt news' r (.num n)) := by
  k_with_none
  k_with "call builtin:str.split" => refine stop ?_
  k_with "exec For Name Call cons nil" => (k_here; (rename Fr _ _ _ _ => lF'Z); (with_unfolding_all refine' For_turns lF'Z ?_; k_whole))
  k_with "execs cons" => ((with_reducible rename StopMark2 => hm9Z); clear hm9Z; refine stop ?_)
  k_with "subscriptTail" => (k_here; (with_reducible show wpAny _ _ (subscriptTail _ _ (Value.ref _) (Value.int _ _)) _ _ _); k_dflt (refine' item_listR (News.isList ?k1 ?k2) ?k3 ?k4 ?k5 ?_ ?k6; (case k1 => k_asm); (case k2 => k_mem); (case k3 => decide); (case k4 => decide); (case k5 => exact item0); (case k6 => with_unfolding_all rfl)))
  k_with "subscriptTail Name Constant ref int" => (k_here; (with_reducible show wpAny _ _ (subscriptTail _ _ (Value.ref _) (Value.int _ _)) _ _ _); k_dflt (refine' item_listR (News.isList ?k1 ?k2) ?k3 ?k4 ?k5 ?_ ?k6; (case k1 => k_asm); (case k2 => k_mem); (case k3 => decide); (case k4 => decide); (case k5 => exact item0); (case k6 => with_unfolding_all rfl)))
  k_with "subscriptTail Subscript Name Constant Constant ref int" => (k_here; (with_reducible show wpAny _ _ (subscriptTail _ _ (Value.ref _) (Value.int _ _)) _ _ _); k_dflt (refine' item_listR (News.isList ?k1 ?k2) ?k3 ?k4 ?k5 ?_ ?k6; (case k1 => k_asm); (case k2 => k_mem); (case k3 => decide); (case k4 => decide); (case k5 => exact item0); (case k6 => with_unfolding_all rfl)))
  k_with "storeName" => ((with_reducible rename StopMark => hm9Z); clear hm9Z; refine stop ?_)
  k_with "call builtin:str.replace" => (k_here; (first | refine replace_sign open_lit ?hp ?hu ?hv ?huv ?hyz ?hx ?hz ?_ | refine replace_sign close_lit ?hp ?hu ?hv ?huv ?hyz ?hx ?hz ?_); (case hp => exact Nat.succ_le_succ (Nat.zero_le _)); (case hu => (show @Ne Nat _ _); omega); (case hv => (show @Ne Nat _ _); omega); (case huv => (show @Ne Nat _ _); omega); (case hyz => decide +kernel); (case hx => omega); (case hz => decide +kernel); intro x9Z t9Z k9Z hx9Z hl9Z hk9Z)
  k_with "call ref" => (k_here; (with_reducible show wpAny _ _ (call (Value.ref 251) [Value.str _ _]) _ _ _); k_dflt (refine' does_use (is_number_does ?h1 ?h2) ?k1 ?k2 ?k3 ?k4 ?k5 ?kK ?kd ?ku ?_; (case h1 => assumption); (case k1 => k_asm); (case k2 => k_asm); (case k3 => k_asm); (case k4 => k_asm); (case k5 => k_asm); (case kK => exact rfl); (case h2 => omega); (case kd => ktr_room); (case ku => ktr_units)); intro v9Z news9Z h9Z tk9Z F9Z N9Z hp9Z; (obtain ⟨e9Z, en9Z⟩ := hp9Z; subst e9Z en9Z); (try dsimp only); (try k_fold))
  k_with "call ref" => (k_here; (with_reducible show wpAny _ _ (call (Value.ref 258) [Value.str _ _]) _ _ _); k_dflt (refine' does_use (number_from_does ?h1 ?h2) ?k1 ?k2 ?k3 ?k4 ?k5 ?kK ?kd ?ku ?_; (case h1 => assumption); (case k1 => k_asm); (case k2 => k_asm); (case k3 => k_asm); (case k4 => k_asm); (case k5 => k_asm); (case kK => exact rfl); (case h2 => omega); (case kd => ktr_room); (case ku => ktr_units)); intro v9Z news9Z h9Z tk9Z F9Z N9Z hp9Z; (obtain ⟨⟨t9Z, e9Z⟩, en9Z⟩ := hp9Z; subst e9Z en9Z); (try dsimp only); (try k_fold))
  unfold Does
  k_fill
  intro dp un gd cn cs a ccd cl outer A₀ base h₀ L m s Q E B F X N T hk hdp hun hret
  refine wpAny_call ?_
  k_dflt ktr_enter
  generalize s.toks + List.length (List.filterMap _ _) = k0
  have hm : StopMark := trivial
  k_steps
  unfold Stop
  have hm : StopMark2 := trivial
  k_steps
  unfold Stop
  dsimp only
  generalize hk1 : k0 + 1 = k1
  have hk1 : 1 ≤ k1 := by omega
  k_steps
  unfold Stop
  rename (_ = repl 41 _ _) => hx2
  rename (_ = repl 40 _ _) => hx1
  refine split_words (by k_asm) (by k_asm) (by omega) ?_
  intro D vs ys h' k hs he F' N' hlt
  have hD1 : @LT.lt Nat instLTNat _ D := hlt _ (.head _)
  have hD2 : @LT.lt Nat instLTNat _ D := hlt _ (.tail _ (.head _))
  rw [hx2, hx1, show (Str.ofString " ( ").cps.toList = openW by decide +kernel, show (Str.ofString " ) ").cps.toList = closeW by decide +kernel, hw] at he
  clear hx1 hx2
  obtain ⟨y, ty, vs', ys', rfl, hy, hyl, hs, he⟩ := strs_cons hs he
  obtain rfl := strs_nil hs he
  have hyn : NumL y.cps.toList n := hy ▸ numL_int n
  have hyz : y.length ≤ 5000 := by omega
  have q1 := ne_sign hyn list_open (by decide)
  have q2 := ne_sign hyn list_close (by decide)
  have q3 := ne_sign hyn list_minus (by decide)
  k_steps
  rename News _ _ _ (_ :: _ :: _ :: _ :: news) => hN
  (try simp only [List.push_toArray, List.nil_append, List.cons_append] at hN)
  rename (_ < _ ∧ _ < _ ∧ _ < _ ∧ AllLt _ news) => hI
  refine ⟨_, _, _, _, rfl, by k_asm, hN, ?_, ⟨.head _, trivial⟩, ?_⟩
  · intro p hp q hq
    rw [List.mem_singleton.mp hq]
    refine Nat.ne_of_lt (ktn_ltOf ?_ p hp)
    exact hI
  clear hN hI
  k_steps
  exact hret _ _ _ _ (by k_asm) (by k_asm) ⟨[_, _, _], rfl, _, rfl⟩
open PySem PySem.W PyProof.Rows PyProof PySem.Calls
open PySem.NumText (AllDigits digitsVal)
open PyProof.Rows.LCg
theorem open_str {y : Str} (h : y.cps.toList = [40]) : y = Str.ofString "(" := by rw [open_lit]; exact one_sign h
theorem close_str {y : Str} (h : y.cps.toList = [41]) : y = Str.ofString ")" := by rw [close_lit]; exact one_sign h
section
variable {i : Addr} {o : Obj} {l : List (Addr × Obj)} {x y : Addr × Obj} {h₀ h : Heap} {L : Addr}
theorem off_nil (h : ∀ p ∈ l, p.1 ≠ i) : ∀ p ∈ l, ∀ q ∈ [(i, o)], p.1 ≠ q.1 := fun p hp q hq => by rw [List.mem_singleton.mp hq]; exact h p hp
theorem off_cons (h : x.1 ≠ i) (H : ∀ p ∈ l, ∀ q ∈ [(i, o)], p.1 ≠ q.1) : ∀ p ∈ x :: l, ∀ q ∈ [(i, o)], p.1 ≠ q.1 := fun p hp q hq => by
  rcases List.mem_cons.mp hp with rfl | hp
  · rw [List.mem_singleton.mp hq]; exact h
  · exact H p hp q hq
theorem news_swap (N : News h₀ L h (x :: y :: l)) : News h₀ L h (y :: x :: l) := fun p hp => by
  rcases List.mem_cons.mp hp with rfl | hp
  · exact N _ (.tail _ (.head _))
  · rcases List.mem_cons.mp hp with rfl | hp
    · exact N _ (.head _)
    · exact N _ (.tail _ (.tail _ hp))
end
set_option maxRecDepth 100000 in
set_option maxHeartbeats 8000000 in
set_option pp.deepTerms false in
set_option pp.deepTerms.threshold 8 in
theorem note_from_pair {w : World} {mean : ExcName → Option Value} {mg mb : Str → Option Value} {news : List (Addr × Obj)} {x : Str} {wv : Value} {t : Tok} {a1 a2 : Int}
    (hw : wordsL (repl 41 closeW (repl 40 openW x.cps.toList)) = [[40], intL a1, intL a2, [41]]) (hn1 : (intL a1).length ≤ 5000) (hn2 : (intL a2).length ≤ 5000) (hx : x.length ≤ 12000) :
    Does w mean mg mb 270 [.str x t, wv] 20 news (fun r news' => ∃ more, news' = more ++ news ∧ NoteAt news' r (.pair a1 a2)) := by
  k_with_none
  k_with "call builtin:str.split" => refine stop ?_
  k_with "exec For Name Call cons nil" => (k_here; (rename Fr _ _ _ _ => lF'Z); (with_unfolding_all refine' For_turns lF'Z ?_; k_whole))
  k_with "execs cons" => ((with_reducible rename StopMark2 => hm9Z); clear hm9Z; refine stop ?_)
  k_with "subscriptTail" => (k_here; (with_reducible show wpAny _ _ (subscriptTail _ _ (Value.ref _) (Value.int _ _)) _ _ _); k_dflt (refine' item_listR (News.isList ?k1 ?k2) ?k3 ?k4 ?k5 ?_ ?k6; (case k1 => k_asm); (case k2 => k_mem); (case k3 => decide); (case k4 => decide); (case k5 => exact item0); (case k6 => with_unfolding_all rfl)))
  k_with "subscriptTail Name Constant ref int" => (k_here; (with_reducible show wpAny _ _ (subscriptTail _ _ (Value.ref _) (Value.int _ _)) _ _ _); k_dflt (refine' item_listR (News.isList ?k1 ?k2) ?k3 ?k4 ?k5 ?_ ?k6; (case k1 => k_asm); (case k2 => k_mem); (case k3 => decide); (case k4 => decide); (case k5 => exact item0); (case k6 => with_unfolding_all rfl)))
  k_with "subscriptTail Subscript Name Constant Constant ref int" => (k_here; (with_reducible show wpAny _ _ (subscriptTail _ _ (Value.ref _) (Value.int _ _)) _ _ _); k_dflt (refine' item_listR (News.isList ?k1 ?k2) ?k3 ?k4 ?k5 ?_ ?k6; (case k1 => k_asm); (case k2 => k_mem); (case k3 => decide); (case k4 => decide); (case k5 => exact item0); (case k6 => with_unfolding_all rfl)))
  k_with "storeName" => ((with_reducible rename StopMark => hm9Z); clear hm9Z; refine stop ?_)
  k_with "call builtin:str.replace" => (k_here; (first | refine replace_sign open_lit ?hp ?hu ?hv ?huv ?hyz ?hx ?hz ?_ | refine replace_sign close_lit ?hp ?hu ?hv ?huv ?hyz ?hx ?hz ?_); (case hp => exact Nat.succ_le_succ (Nat.zero_le _)); (case hu => (show @Ne Nat _ _); omega); (case hv => (show @Ne Nat _ _); omega); (case huv => (show @Ne Nat _ _); omega); (case hyz => decide +kernel); (case hx => omega); (case hz => decide +kernel); intro x9Z t9Z k9Z hx9Z hl9Z hk9Z)
  k_with "call ref" => (k_here; (with_reducible show wpAny _ _ (call (Value.ref 251) [Value.str _ _]) _ _ _); k_dflt (refine' does_use (is_number_does ?h1 ?h2) ?k1 ?k2 ?k3 ?k4 ?k5 ?kK ?kd ?ku ?_; (case h1 => assumption); (case k1 => k_asm); (case k2 => k_asm); (case k3 => k_asm); (case k4 => k_asm); (case k5 => k_asm); (case kK => exact rfl); (case h2 => omega); (case kd => ktr_room); (case ku => ktr_units)); intro v9Z news9Z h9Z tk9Z F9Z N9Z hp9Z; (obtain ⟨e9Z, en9Z⟩ := hp9Z; subst e9Z en9Z); (try dsimp only); (try k_fold))
  k_with "call ref" => (k_here; (with_reducible show wpAny _ _ (call (Value.ref 258) [Value.str _ _]) _ _ _); k_dflt (refine' does_use (number_from_does ?h1 ?h2) ?k1 ?k2 ?k3 ?k4 ?k5 ?kK ?kd ?ku ?_; (case h1 => assumption); (case k1 => k_asm); (case k2 => k_asm); (case k3 => k_asm); (case k4 => k_asm); (case k5 => k_asm); (case kK => exact rfl); (case h2 => omega); (case kd => ktr_room); (case ku => ktr_units)); intro v9Z news9Z h9Z tk9Z F9Z N9Z hp9Z; (obtain ⟨⟨t9Z, e9Z⟩, en9Z⟩ := hp9Z; subst e9Z en9Z); (try dsimp only); (try k_fold))
  unfold Does
  k_fill
  intro dp un gd cn cs a ccd cl outer A₀ base h₀ L m s Q E B F X N T hk hdp hun hret
  refine wpAny_call ?_
  k_dflt ktr_enter
  generalize s.toks + List.length (List.filterMap _ _) = k0
  have hm : StopMark := trivial
  k_steps
  unfold Stop
  have hm : StopMark2 := trivial
  k_steps
  unfold Stop
  dsimp only
  generalize hk1 : k0 + 1 = k1
  have hk1 : 1 ≤ k1 := by omega
  k_steps
  unfold Stop
  rename (_ = repl 41 _ _) => hx2
  rename (_ = repl 40 _ _) => hx1
  refine split_words (by k_asm) (by k_asm) (by omega) ?_
  intro D vs ys h' k hs he F' N' hlt
  have hD1 : @LT.lt Nat instLTNat _ D := hlt _ (.head _)
  have hD2 : @LT.lt Nat instLTNat _ D := hlt _ (.tail _ (.head _))
  rw [hx2, hx1, show (Str.ofString " ( ").cps.toList = openW by decide +kernel, show (Str.ofString " ) ").cps.toList = closeW by decide +kernel, hw] at he
  clear hx1 hx2 hw
  obtain ⟨y0, ty0, vs', ys', rfl, hy0, _, hs, he⟩ := strs_cons hs he
  obtain ⟨y1, ty1, vs', ys', rfl, hy1, hyl1, hs, he⟩ := strs_cons hs he
  obtain ⟨y2, ty2, vs', ys', rfl, hy2, hyl2, hs, he⟩ := strs_cons hs he
  obtain ⟨y3, ty3, vs', ys', rfl, hy3, _, hs, he⟩ := strs_cons hs he
  obtain rfl := strs_nil hs he
  clear hs he
  obtain rfl := open_str hy0
  obtain rfl := close_str hy3
  have hyn1 : NumL y1.cps.toList a1 := hy1 ▸ numL_int a1
  have hyn2 : NumL y2.cps.toList a2 := hy2 ▸ numL_int a2
  have hyz1 : y1.length ≤ 5000 := by omega
  have hyz2 : y2.length ≤ 5000 := by omega
  have q1 := ne_sign hyn1 list_open (by decide)
  have q2 := ne_sign hyn1 list_close (by decide)
  have q3 := ne_sign hyn1 list_minus (by decide)
  have q4 := ne_sign hyn2 list_open (by decide)
  have q5 := ne_sign hyn2 list_close (by decide)
  have q6 := ne_sign hyn2 list_minus (by decide)
  k_steps
  rename News _ _ _ (_ :: _ :: _ :: _ :: _ :: news) => hN
  (try simp only [List.push_toArray, List.nil_append, List.cons_append] at hN)
  refine ⟨_, _, _, _, rfl, by k_asm, news_swap hN, by ((repeat (refine off_cons ?_ ?_; (focus k_ne))); exact off_nil (by k_all)), ⟨.tail _ (.head _), trivial⟩, ?_⟩
  clear hN
  k_steps
  rename News _ _ _ (_ :: _ :: _ :: _ :: _ :: news) => hN
  (try simp only [List.push_toArray, List.nil_append, List.cons_append] at hN)
  refine ⟨_, _, _, _, rfl, by k_asm, hN, by ((repeat (refine off_cons ?_ ?_; (focus k_ne))); exact off_nil (by k_all)), ⟨.tail _ (.head _), trivial⟩, ?_⟩
  clear hN
  k_steps
  rename News _ _ _ (_ :: _ :: _ :: _ :: _ :: news) => hN
  (try simp only [List.push_toArray, List.nil_append, List.cons_append] at hN)
  refine ⟨_, _, _, _, rfl, by k_asm, hN, by ((repeat (refine off_cons ?_ ?_; (focus k_ne))); exact off_nil (by k_all)), ⟨.tail _ (.head _), trivial⟩, ?_⟩
  clear hN
  k_steps
  rename News _ _ _ (_ :: _ :: _ :: _ :: _ :: _ :: news) => hN
  (try simp only [List.push_toArray, List.nil_append, List.cons_append] at hN)
  refine ⟨_, _, _, _, rfl, by k_asm, news_swap hN, by ((repeat (refine off_cons ?_ ?_; (focus k_ne))); exact off_nil (by k_all)), ⟨.tail _ (.tail _ (.head _)), trivial⟩, ?_⟩
  clear hN
  k_steps
  exact hret _ _ _ _ (by k_asm) (by k_asm) ⟨[_, _, _, _, _], rfl, _, _, _, _, rfl, .head _⟩
open PySem PySem.W PyProof.Rows PyProof PySem.Calls
open PySem.NumText (AllDigits digitsVal)
open PyProof.Rows.LCg
theorem word_str {y : Str} (h : y.cps.toList = wordW) : y = Str.ofString "word" := Str.ext' (Array.toList_inj.mp (by rw [h, list_word]; rfl))
set_option maxRecDepth 100000 in
set_option maxHeartbeats 8000000 in
set_option pp.deepTerms false in
set_option pp.deepTerms.threshold 8 in
theorem note_from_deep {w : World} {mean : ExcName → Option Value} {mg mb : Str → Option Value} {news : List (Addr × Obj)} {x : Str} {wv : Value} {t : Tok} {a1 : Int}
    (hw : wordsL (repl 41 closeW (repl 40 openW x.cps.toList)) = [[40], [40], intL a1, [41], wordW, [45], [41]]) (hn1 : (intL a1).length ≤ 5000) (hx : x.length ≤ 12000) :
    Does w mean mg mb 270 [.str x t, wv] 20 news (fun r news' => ∃ more, news' = more ++ news ∧ NoteAt news' r (.deep a1)) := by
  k_with_none
  k_with "call builtin:str.split" => refine stop ?_
  k_with "exec For Name Call cons nil" => (k_here; (rename Fr _ _ _ _ => lF'Z); (with_unfolding_all refine' For_turns lF'Z ?_; k_whole))
  k_with "execs cons" => ((with_reducible rename StopMark2 => hm9Z); clear hm9Z; refine stop ?_)
  k_with "subscriptTail" => (k_here; (with_reducible show wpAny _ _ (subscriptTail _ _ (Value.ref _) (Value.int _ _)) _ _ _); k_dflt (refine' item_listR (News.isList ?k1 ?k2) ?k3 ?k4 ?k5 ?_ ?k6; (case k1 => k_asm); (case k2 => k_mem); (case k3 => decide); (case k4 => decide); (case k5 => exact item0); (case k6 => with_unfolding_all rfl)))
  k_with "subscriptTail Name Constant ref int" => (k_here; (with_reducible show wpAny _ _ (subscriptTail _ _ (Value.ref _) (Value.int _ _)) _ _ _); k_dflt (refine' item_listR (News.isList ?k1 ?k2) ?k3 ?k4 ?k5 ?_ ?k6; (case k1 => k_asm); (case k2 => k_mem); (case k3 => decide); (case k4 => decide); (case k5 => exact item0); (case k6 => with_unfolding_all rfl)))
  k_with "subscriptTail Subscript Name Constant Constant ref int" => (k_here; (with_reducible show wpAny _ _ (subscriptTail _ _ (Value.ref _) (Value.int _ _)) _ _ _); k_dflt (refine' item_listR (News.isList ?k1 ?k2) ?k3 ?k4 ?k5 ?_ ?k6; (case k1 => k_asm); (case k2 => k_mem); (case k3 => decide); (case k4 => decide); (case k5 => exact item0); (case k6 => with_unfolding_all rfl)))
  k_with "storeName" => ((with_reducible rename StopMark => hm9Z); clear hm9Z; refine stop ?_)
  k_with "call builtin:str.replace" => (k_here; (first | refine replace_sign open_lit ?hp ?hu ?hv ?huv ?hyz ?hx ?hz ?_ | refine replace_sign close_lit ?hp ?hu ?hv ?huv ?hyz ?hx ?hz ?_); (case hp => exact Nat.succ_le_succ (Nat.zero_le _)); (case hu => (show @Ne Nat _ _); omega); (case hv => (show @Ne Nat _ _); omega); (case huv => (show @Ne Nat _ _); omega); (case hyz => decide +kernel); (case hx => omega); (case hz => decide +kernel); intro x9Z t9Z k9Z hx9Z hl9Z hk9Z)
  k_with "call ref" => (k_here; (with_reducible show wpAny _ _ (call (Value.ref 251) [Value.str _ _]) _ _ _); k_dflt (refine' does_use (is_number_does ?h1 ?h2) ?k1 ?k2 ?k3 ?k4 ?k5 ?kK ?kd ?ku ?_; (case h1 => assumption); (case k1 => k_asm); (case k2 => k_asm); (case k3 => k_asm); (case k4 => k_asm); (case k5 => k_asm); (case kK => exact rfl); (case h2 => omega); (case kd => ktr_room); (case ku => ktr_units)); intro v9Z news9Z h9Z tk9Z F9Z N9Z hp9Z; (obtain ⟨e9Z, en9Z⟩ := hp9Z; subst e9Z en9Z); (try dsimp only); (try k_fold))
  k_with "call ref" => (k_here; (with_reducible show wpAny _ _ (call (Value.ref 258) [Value.str _ _]) _ _ _); k_dflt (refine' does_use (number_from_does ?h1 ?h2) ?k1 ?k2 ?k3 ?k4 ?k5 ?kK ?kd ?ku ?_; (case h1 => assumption); (case k1 => k_asm); (case k2 => k_asm); (case k3 => k_asm); (case k4 => k_asm); (case k5 => k_asm); (case kK => exact rfl); (case h2 => omega); (case kd => ktr_room); (case ku => ktr_units)); intro v9Z news9Z h9Z tk9Z F9Z N9Z hp9Z; (obtain ⟨⟨t9Z, e9Z⟩, en9Z⟩ := hp9Z; subst e9Z en9Z); (try dsimp only); (try k_fold))
  k_with "call ref" => (k_here; (with_reducible show wpAny _ _ (call (Value.ref 251) [Value.str (Str.ofString _) _]) _ _ _); k_dflt (refine' does_use is_number_word ?k1 ?k2 ?k3 ?k4 ?k5 ?kK ?kd ?ku ?_; (case k1 => k_asm); (case k2 => k_asm); (case k3 => k_asm); (case k4 => k_asm); (case k5 => k_asm); (case kK => exact rfl); (case kd => ktr_room); (case ku => ktr_units)); intro v9Z news9Z h9Z tk9Z F9Z N9Z hp9Z; (obtain ⟨e9Z, en9Z⟩ := hp9Z; subst e9Z en9Z); (try dsimp only); (try k_fold))
  unfold Does
  k_fill
  intro dp un gd cn cs a ccd cl outer A₀ base h₀ L m s Q E B F X N T hk hdp hun hret
  refine wpAny_call ?_
  k_dflt ktr_enter
  generalize s.toks + List.length (List.filterMap _ _) = k0
  have hm : StopMark := trivial
  k_steps
  unfold Stop
  have hm : StopMark2 := trivial
  k_steps
  unfold Stop
  dsimp only
  generalize hk1 : k0 + 1 = k1
  have hk1 : 1 ≤ k1 := by omega
  k_steps
  unfold Stop
  rename (_ = repl 41 _ _) => hx2
  rename (_ = repl 40 _ _) => hx1
  refine split_words (by k_asm) (by k_asm) (by omega) ?_
  intro D vs ys h' k hs he F' N' hlt
  have hD1 : @LT.lt Nat instLTNat _ D := hlt _ (.head _)
  have hD2 : @LT.lt Nat instLTNat _ D := hlt _ (.tail _ (.head _))
  rw [hx2, hx1, show (Str.ofString " ( ").cps.toList = openW by decide +kernel, show (Str.ofString " ) ").cps.toList = closeW by decide +kernel, hw] at he
  clear hx1 hx2 hw
  obtain ⟨y0, ty0, vs', ys', rfl, hy0, _, hs, he⟩ := strs_cons hs he
  obtain ⟨y1, ty1, vs', ys', rfl, hy1, _, hs, he⟩ := strs_cons hs he
  obtain ⟨y2, ty2, vs', ys', rfl, hy2, hyl2, hs, he⟩ := strs_cons hs he
  obtain ⟨y3, ty3, vs', ys', rfl, hy3, _, hs, he⟩ := strs_cons hs he
  obtain ⟨y4, ty4, vs', ys', rfl, hy4, _, hs, he⟩ := strs_cons hs he
  obtain ⟨y5, ty5, vs', ys', rfl, hy5, _, hs, he⟩ := strs_cons hs he
  obtain ⟨y6, ty6, vs', ys', rfl, hy6, _, hs, he⟩ := strs_cons hs he
  obtain rfl := strs_nil hs he
  clear hs he
  obtain rfl := open_str hy0
  obtain rfl := open_str hy1
  obtain rfl := close_str hy3
  obtain rfl := word_str hy4
  obtain rfl := minus_str hy5
  obtain rfl := close_str hy6
  have hyn2 : NumL y2.cps.toList a1 := hy2 ▸ numL_int a1
  have hyz2 : y2.length ≤ 5000 := by omega
  have q4 := ne_sign hyn2 list_open (by decide)
  have q5 := ne_sign hyn2 list_close (by decide)
  have q6 := ne_sign hyn2 list_minus (by decide)
  k_steps
  rename News _ _ _ (_ :: _ :: _ :: _ :: _ :: news) => hN
  (try simp only [List.push_toArray, List.nil_append, List.cons_append] at hN)
  refine ⟨_, _, _, _, rfl, by k_asm, news_swap hN, by ((repeat (refine off_cons ?_ ?_; (focus k_ne))); exact off_nil (by k_all)), ⟨.tail _ (.head _), trivial⟩, ?_⟩
  clear hN
  k_steps
  rename News _ _ _ (_ :: _ :: _ :: _ :: _ :: _ :: news) => hN
  (try simp only [List.push_toArray, List.nil_append, List.cons_append] at hN)
  refine ⟨_, _, _, _, rfl, by k_asm, news_swap hN, by ((repeat (refine off_cons ?_ ?_; (focus k_ne))); exact off_nil (by k_all)), ⟨.tail _ (.tail _ (.head _)), trivial⟩, ?_⟩
  clear hN
  k_steps
  rename News _ _ _ (_ :: _ :: _ :: _ :: _ :: _ :: news) => hN
  (try simp only [List.push_toArray, List.nil_append, List.cons_append] at hN)
  refine ⟨_, _, _, _, rfl, by k_asm, hN, by ((repeat (refine off_cons ?_ ?_; (focus k_ne))); exact off_nil (by k_all)), ⟨.tail _ (.tail _ (.head _)), trivial⟩, ?_⟩
  clear hN
  k_steps
  rename News _ _ _ (_ :: _ :: _ :: _ :: _ :: _ :: _ :: news) => hN
  (try simp only [List.push_toArray, List.nil_append, List.cons_append] at hN)
  refine ⟨_, _, _, _, rfl, by k_asm, news_swap hN, by ((repeat (refine off_cons ?_ ?_; (focus k_ne))); exact off_nil (by k_all)), ⟨.tail _ (.tail _ (.tail _ (.head _))), trivial⟩, ?_⟩
  clear hN
  k_steps
  rename News _ _ _ (_ :: _ :: _ :: _ :: _ :: _ :: _ :: news) => hN
  (try simp only [List.push_toArray, List.nil_append, List.cons_append] at hN)
  refine ⟨_, _, _, _, rfl, by k_asm, hN, by ((repeat (refine off_cons ?_ ?_; (focus k_ne))); exact off_nil (by k_all)), ⟨.tail _ (.tail _ (.tail _ (.head _))), trivial⟩, ?_⟩
  clear hN
  k_steps
  rename News _ _ _ (_ :: _ :: _ :: _ :: _ :: _ :: _ :: news) => hN
  (try simp only [List.push_toArray, List.nil_append, List.cons_append] at hN)
  refine ⟨_, _, _, _, rfl, by k_asm, hN, by ((repeat (refine off_cons ?_ ?_; (focus k_ne))); exact off_nil (by k_all)), ⟨.tail _ (.tail _ (.tail _ (.head _))), trivial⟩, ?_⟩
  clear hN
  k_steps
  rename News _ _ _ (_ :: _ :: _ :: _ :: _ :: _ :: _ :: _ :: news) => hN
  (try simp only [List.push_toArray, List.nil_append, List.cons_append] at hN)
  refine ⟨_, _, _, _, rfl, by k_asm, news_swap hN, by ((repeat (refine off_cons ?_ ?_; (focus k_ne))); exact off_nil (by k_all)), ⟨.tail _ (.tail _ (.tail _ (.tail _ (.head _)))), trivial⟩, ?_⟩
  clear hN
  k_steps
  exact hret _ _ _ _ (by k_asm) (by k_asm) ⟨[_, _, _, _, _, _, _], rfl, _, _, _, _, _, _, rfl, .head _, .tail _ (.head _)⟩
end Mine
end
section
open PySem PySem.W PyProof.Rows PySem.Calls PyProof.V PySem.Spec
namespace Mine
def GrowJ {σ : Type} (Led : σ → List (Addr × Obj)) (ps : σ → List (PySem.Str × Value)) (x : PySem.Str) (stored : List PySem.Str) (m₀ : PySem.Str → Option Value) (P : Nat → σ → Prop) (i : Nat) (m : PySem.Str → Option Value) (nx : List (Addr × Obj)) : Prop :=
  ∃ g : σ, nx = Led g ∧ (∀ p ∈ ps g, m p.1 = some p.2) ∧ (∀ z, z ≠ x → (∀ p ∈ ps g, z ≠ p.1) → stored.contains z = false → m z = m₀ z) ∧ P i g
section
variable {prog : Program} {w : World} {A : Around} {E : Value → Shared → Prop} {s : Shared} {env : Env} {h₀ : Heap} {x : PySem.Str} {body : List Stmt} {Q : Flow → Shared → Prop}

/-- a for over a range, the ledger growing with the state -/
theorem range_grow {σ : Type} {r : Addr} {a₀ b₀ c : Int} {t₀ u₀ v₀ : Tok} {n : Nat} {m₀ : PySem.Str → Option Value} (Led : σ → List (Addr × Obj)) (ps : σ → List (PySem.Str × Value)) (stored : List PySem.Str) (P : Nat → σ → Prop) (c₀ : σ)
    (hh : A.handled = none) (hr : IsRange s.heap r a₀ b₀ c t₀ u₀ v₀) (hsmall : Builtin.Range.small a₀ b₀ c = true) (hn : Builtin.Range.rangeSize a₀ b₀ c = (n : Int)) (F : Fr h₀ env.locals s.heap m₀) (N : News h₀ env.locals s.heap (Led c₀))
    (hk : ∀ p ∈ ps c₀, m₀ p.1 = some p.2) (hp : P 0 c₀)
    (turn : ∀ (g : σ) (i : Nat) t (u : PySem.Str → Option Value) h tk own I it, i < n → P i g → (I, it) ∈ own → it.cls = .type "range_iterator" → (∀ p ∈ own, p.1 = I) → (∀ p ∈ Led g, p.1 ≠ I) →
      Fr h₀ env.locals h (fun y => if y = x then some (.int (a₀ + (i : Int) * c) t) else kstB (fun z => if stored.contains z then u z else m₀ z) (ps g) y) → News h₀ env.locals h (Led g ++ own) →
      wpAny (model prog w) A (execs body env) (LoopStepV h₀ env.locals [I] own (GrowJ Led ps x stored m₀ P (i + 1)) { s with heap := h, toks := tk } (fun v s' => Q (.ret v) s') fun s' => Q .next s') E { s with heap := h, toks := tk })
    (done : ∀ (g : σ) (u : PySem.Str → Option Value) h tk, P n g → Fr h₀ env.locals h (fun y => if y = x then u y else kstB (fun z => if stored.contains z then u z else m₀ z) (ps g) y) → News h₀ env.locals h (Led g) → Q .next { s with heap := h, toks := tk }) :
    wpAny (model prog w) A (pyIter (.ref r)) (fun it s₂ => LoopAtV prog w A h₀ env x body Q E it s₂) E s := by
  refine wpAny_pyIter_range hr hsmall ?_
  have W : Walks prog w A s.heap.objs.size [s.heap.objs.size] [s.heap.objs.size] n (fun i v => i < n ∧ ∃ t, v = .int (a₀ + i * c) t)
      (fun i h => IsRangeIter h s.heap.objs.size (a₀ + (i : Nat) * c) ((n : Int) - (i : Nat)) c) := (Walks.range hh _ a₀ c n).bound
  have hnew : h₀.get? s.heap.objs.size = none := next_is_new F
  refine ⟨_, _, _, n, _, _, m₀, Led c₀, GrowJ Led ps x stored m₀ P, rfl, W, ?_, ?_, ?_, (by show IsRangeIter _ _ _ _ _; rw [hn]; simpa using Heap.get?_push_size _ rfl), F.push _, (fun p hp => ⟨Heap.get?_push_of_some _ (N p hp).1, (N p hp).2⟩), ⟨c₀, rfl, hk, fun _ _ _ _ => rfl, hp⟩, ?_, ?_⟩
  · intro hm
    exact absurd F.ns.lt ((List.mem_singleton.mp hm) ▸ Nat.lt_irrefl _)
  · intro b hb
    rw [List.mem_singleton.mp hb]
    exact hnew
  · intro p hp hI
    exact absurd (Heap.lt_size (N p hp).1) ((List.mem_singleton.mp hI) ▸ Nat.lt_irrefl _)
  · rintro i v m₁ news₁ s₁ own ⟨h, tk, rfl⟩ hi ⟨_, t, rfl⟩ ⟨g, rfl, h1, h2, hp'⟩ hoff hown _ hall hst F₁ N₁
    have hmem := hall _ (List.mem_singleton.mpr rfl) hnew _ hst
    exact turn g i t m₁ h tk own _ _ hi hp' hmem rfl (fun p hp => List.mem_singleton.mp (hown p hp)) (fun p hp e => hoff p hp (List.mem_singleton.mpr e)) (kst_fr h1 h2 F₁) (fun p hp => N₁ p ((List.mem_append.mp hp).elim (fun h => List.mem_append.mpr (.inr h)) fun h => List.mem_append.mpr (.inl h)))
  · rintro h' tk m' news' F' N' _ ⟨g, rfl, h1, h2, hp'⟩
    exact done g m' h' tk hp' (kst_frOut h1 h2 F') N'

theorem grow_end {σ : Type} {Led : σ → List (Addr × Obj)} {ps : σ → List (PySem.Str × Value)} {stored : List PySem.Str} {m₀ m' : PySem.Str → Option Value} {P : Nat → σ → Prop} {i : Nat} {L I : Addr} {own news' : List (Addr × Obj)} {s₁ : Shared} {h' : Heap} {tk : Nat} (c : σ)
    (F : Fr h₀ L h' m') (N : News h₀ L h' news') (hn : ∀ p ∈ Led c, p ∈ news') (ho : ∀ p ∈ own, p ∈ news') (ha : ∀ p ∈ Led c, p.1 ≠ I) (hk : ∀ p ∈ ps c, m' p.1 = some p.2) (hr : ∀ z, z ≠ x → (∀ p ∈ ps c, z ≠ p.1) → stored.contains z = false → m' z = m₀ z) (hp : P i c) :
    LoopStepU h₀ L [I] own (GrowJ Led ps x stored m₀ P i) s₁ .next { s₁ with heap := h', toks := tk } :=
  .intro F (fun p hp => (List.mem_append.mp hp).elim (fun h => N p (ho p h)) fun h => N p (hn p h)) (fun p hp e => ha p hp (List.mem_singleton.mp e)) ⟨c, rfl, hk, hr, hp⟩
end
end Mine
end
section
open PySem PySem.W PyProof.Rows PyProof PySem.Calls
namespace Mine
open PySem.NumText (AllDigits digitsVal)
def rowsP : Nat → List RowP → List (List Nat)
  | _, [] => []
  | i, r :: rs => rowP i r :: rowsP (i + 1) rs
def rsOf : Nat → List Note → List RowP
  | _, [] => []
  | i, n :: r => ⟨decL (i + 1), i + 1, n⟩ :: rsOf (i + 1) r
theorem rowsL_rsOf : ∀ (l : List Note) (i : Nat), rowsL i l = rowsP i (rsOf i l)
  | [], _ => rfl
  | n :: r, i => by
    show rowL i n :: rowsL (i + 1) r = rowP i _ :: rowsP (i + 1) (rsOf (i + 1) r)
    rw [rowL_eq, rowsL_rsOf r (i + 1)]
theorem rsOf_length : ∀ (l : List Note) (i : Nat), (rsOf i l).length = l.length
  | [], _ => rfl
  | _ :: r, i => congrArg (· + 1) (rsOf_length r (i + 1))
theorem rowsP_length : ∀ (l : List RowP) (i : Nat), (rowsP i l).length = l.length
  | [], _ => rfl
  | _ :: r, i => congrArg (· + 1) (rowsP_length r (i + 1))
theorem rowsP_get : ∀ (l : List RowP) (i k : Nat) (r : RowP), l[k]? = some r → (rowsP i l)[k]? = some (rowP (i + k) r)
  | [], _, k, _, h => by simp at h
  | r' :: rs, i, 0, r, h => by
    have e : r' = r := by simpa using h
    rw [e]; rfl
  | r' :: rs, i, k + 1, r, h => by
    show (rowsP (i + 1) rs)[k]? = _
    rw [rowsP_get rs (i + 1) k r (by simpa using h), show i + 1 + k = i + (k + 1) by omega]
theorem rsOf_get : ∀ (l : List Note) (i k : Nat) (n : Note), l[k]? = some n → (rsOf i l)[k]? = some ⟨decL (i + k + 1), ((i + k : Nat) : Int) + 1, n⟩
  | [], _, k, _, h => by simp at h
  | n' :: rs, i, 0, n, h => by
    have e : n' = n := by simpa using h
    rw [e]; rfl
  | n' :: rs, i, k + 1, n, h => by
    show (rsOf (i + 1) rs)[k]? = _
    rw [rsOf_get rs (i + 1) k n (by simpa using h), show i + 1 + k = i + (k + 1) by omega]
/-- what a row must be -/
def RowOk (r : RowP) : Prop := NumL r.l r.v ∧ r.l.length ≤ 5000 ∧ r.v ≠ 0 ∧ r.nt.small
theorem rsOf_mem : ∀ (l : List Note) (i : Nat), ∀ r ∈ rsOf i l, ∃ k : Nat, k ≤ i + l.length ∧ r.l = decL k ∧ r.v = (k : Int) ∧ 1 ≤ k ∧ r.nt ∈ l
  | [], _, r, h => nomatch h
  | n :: l, i, r, h => by
    rcases List.mem_cons.mp h with rfl | h
    · exact ⟨i + 1, by rw [List.length_cons]; omega, rfl, by show ((i : Nat) : Int) + 1 = ((i + 1 : Nat) : Int); omega, by omega, .head _⟩
    · obtain ⟨k, h1, h2, h3, h4, h5⟩ := rsOf_mem l (i + 1) r h
      exact ⟨k, by rw [List.length_cons]; omega, h2, h3, h4, .tail _ h5⟩
theorem rsOf_ok {l : List Note} (hl : l.length ≤ 3) (hs : ∀ n ∈ l, n.small) : ∀ r ∈ rsOf 0 l, RowOk r := by
  intro r hr
  obtain ⟨k, h1, h2, h3, h4, h5⟩ := rsOf_mem l 0 r hr
  refine ⟨by rw [h2, h3]; exact numL_dec k, ?_, by rw [h3]; omega, hs _ h5⟩
  rw [h2]
  exact Nat.le_trans (decL_len (k := 1) (n := k) (by omega)) (by decide)
theorem fold_count : ∀ (l : List Nat) (ws : List (List Nat)) (r : List Nat), (wfin (l.foldl wstep (ws, r))).length ≤ ws.length + l.length + 1
  | [], ws, r => by
    show (wfin (ws, r)).length ≤ _
    unfold wfin
    by_cases h : r = []
    · rw [if_pos h]; simp
    · rw [if_neg h]; simp
  | c :: l, ws, r => by
    rw [List.foldl_cons]
    by_cases hc : Unicode.isSpace c = true
    · by_cases h : r = []
      · have e : wstep (ws, r) c = (ws, r) := by unfold wstep; rw [if_pos hc, if_pos h]
        rw [e]
        have := fold_count l ws r
        rw [List.length_cons]; omega
      · have e : wstep (ws, r) c = (ws ++ [r], []) := by unfold wstep; rw [if_pos hc, if_neg h]
        rw [e]
        have := fold_count l (ws ++ [r]) []
        rw [List.length_append] at this
        simp only [List.length_cons, List.length_nil] at *
        omega
    · have e : wstep (ws, r) c = (ws, r ++ [c]) := by unfold wstep; rw [if_neg hc]
      rw [e]
      have := fold_count l ws (r ++ [c])
      rw [List.length_cons]; omega
theorem words_count (l : List Nat) : (wordsL l).length ≤ l.length + 1 := by
  have := fold_count l [] []
  unfold wordsL
  simpa using this
theorem intL_len {n : Int} (hn : n.natAbs < 10 ^ 4500) : (intL n).length ≤ 4501 := by
  have h1 : ∀ m : Nat, m < 10 ^ 4500 → (decL m).length ≤ 4500 := fun m hm => decL_len (k := 4499) hm
  unfold intL
  by_cases h : n < 0
  · rw [if_pos h, List.length_cons]
    have := h1 (-n).toNat (by rw [show (-n).toNat = n.natAbs by omega]; exact hn)
    omega
  · rw [if_neg h]
    have := h1 n.toNat (by rw [show n.toNat = n.natAbs by omega]; exact hn)
    omega
theorem noteL_len {nt : Note} (h : nt.small) : (noteL nt).length ≤ 9100 := by
  cases nt with
  | num n => exact Nat.le_trans (intL_len h) (by decide)
  | pair a b =>
    have h1 := intL_len h.1
    have h2 := intL_len h.2
    show (40 :: (intL a ++ 32 :: (intL b ++ [41]))).length ≤ 9100
    simp only [List.length_append, List.length_cons, List.length_nil]
    omega
  | deep a =>
    have h1 := intL_len h
    show (40 :: 40 :: (intL a ++ [41, 32, 119, 111, 114, 100, 32, 45, 41])).length ≤ 9100
    simp only [List.length_append, List.length_cons, List.length_nil]
    omega
theorem row_len {i : Nat} {r : RowP} (hi : i ≤ 3) (h : RowOk r) : (rowP i r).length ≤ 14200 := by
  have h1 := noteL_len h.2.2.2
  have h2 := h.2.1
  have h3 : (decL i).length ≤ 2 := decL_len (k := 1) (n := i) (by omega)
  unfold rowP partA partB partC partD stepW inputW
  simp only [joinL, List.length_append, List.length_cons, List.length_nil]
  omega
/-- the rows of a text: some steps, and perhaps an empty row behind -/
structure Rows (ps : List (List Nat)) (rs : List RowP) : Prop where
  len : ps.length ≤ 4
  some : ps ≠ []
  le : rs.length ≤ ps.length
  few : rs.length ≤ 3
  ok : ∀ r ∈ rs, RowOk r
  free : ∀ p ∈ ps, 10 ∉ p ∧ 59 ∉ p ∧ p.length ≤ 14200
  row : ∀ (i : Nat) (r : RowP), rs[i]? = Option.some r → ps[i]? = Option.some (rowP i r)
  none : ∀ (i : Nat), rs.length ≤ i → i < ps.length → ps[i]? = Option.some []
theorem rowsP_free : ∀ (l : List RowP) (i : Nat), i + l.length ≤ 3 → (∀ r ∈ l, RowOk r) → ∀ p ∈ rowsP i l, 10 ∉ p ∧ 59 ∉ p ∧ p.length ≤ 14200
  | [], _, _, _, p, h => nomatch h
  | r :: l, i, hi, ho, p, h => by
    rw [List.length_cons] at hi
    rcases List.mem_cons.mp h with rfl | h
    · have h1 := ho r (.head _)
      exact ⟨rowP_free i h1.1 (.inl rfl), rowP_free i h1.1 (.inr rfl), row_len (by omega) h1⟩
    · exact rowsP_free l (i + 1) (by omega) (fun r hr => ho r (.tail _ hr)) p h
theorem rows_of {rs : List RowP} (h0 : rs ≠ []) (hl : rs.length ≤ 3) (ho : ∀ r ∈ rs, RowOk r) : Rows (rowsP 0 rs) rs where
  len := by rw [rowsP_length]; omega
  some := by
    intro e
    have := congrArg List.length e
    rw [rowsP_length] at this
    exact h0 (List.length_eq_zero_iff.mp this)
  le := by rw [rowsP_length]; omega
  few := hl
  ok := ho
  free := rowsP_free rs 0 (by omega) ho
  row := fun i r h => by rw [rowsP_get rs 0 i r h, Nat.zero_add]
  none := fun i h1 h2 => by rw [rowsP_length] at h2; omega
theorem rows_tail {rs : List RowP} (hl : rs.length ≤ 3) (ho : ∀ r ∈ rs, RowOk r) : Rows (rowsP 0 rs ++ [[]]) rs where
  len := by rw [List.length_append, rowsP_length]; simp; omega
  some := by simp
  le := by rw [List.length_append, rowsP_length]; omega
  few := hl
  ok := ho
  free := by
    intro p hp
    rcases List.mem_append.mp hp with hp | hp
    · exact rowsP_free rs 0 (by omega) ho p hp
    · rw [List.mem_singleton.mp hp]
      exact ⟨List.not_mem_nil, List.not_mem_nil, Nat.zero_le _⟩
  row := fun i r h => by
    have hi : i < rs.length := (List.getElem?_eq_some_iff.mp h).1
    rw [List.getElem?_append_left (by rw [rowsP_length]; exact hi), rowsP_get rs 0 i r h, Nat.zero_add]
  none := fun i h1 h2 => by
    rw [List.length_append, rowsP_length] at h2
    simp at h2
    rw [List.getElem?_append_right (by rw [rowsP_length]; exact h1), rowsP_length, show i - rs.length = 0 by omega]
    rfl
end Mine
end
section
open PySem PySem.W PyProof.Rows PyProof PySem.Calls
namespace Mine
open PySem.NumText (AllDigits digitsVal)
theorem note_from_does {w : World} {mean : ExcName → Option Value} {mg mb : Str → Option Value} {news : List (Addr × Obj)} {x : Str} {wv : Value} {t : Tok} {nt : Note}
    (hw : wordsL (repl 41 closeW (repl 40 openW x.cps.toList)) = noteW nt) (hn : nt.small) (hx : x.length ≤ 12000) :
    Does w mean mg mb 270 [.str x t, wv] 20 news (fun r news' => ∃ more, news' = more ++ news ∧ NoteAt news' r nt) := by
  have hl : ∀ n : Int, n.natAbs < 10 ^ 4500 → (intL n).length ≤ 5000 := by
    intro n hn
    have h1 : ∀ m : Nat, m < 10 ^ 4500 → (decL m).length ≤ 4500 := fun m hm => decL_len (k := 4499) hm
    unfold intL
    by_cases h : n < 0
    · rw [if_pos h, List.length_cons]
      have := h1 (-n).toNat (by rw [show (-n).toNat = n.natAbs by omega]; exact hn)
      omega
    · rw [if_neg h]
      have := h1 n.toNat (by rw [show n.toNat = n.natAbs by omega]; exact hn)
      omega
  cases nt with
  | num n => exact note_from_num hw (hl n hn) hx
  | pair a b => exact note_from_pair hw (hl a hn.1) (hl b hn.2) hx
  | deep a => exact note_from_deep hw (hl a hn) hx
open Classical in
noncomputable def tupsOf (l : List (Addr × Obj)) : List (Addr × Obj) := l.filter fun p => decide (p.2.cls = .type "tuple")
theorem mem_tups {p : Addr × Obj} {l : List (Addr × Obj)} (h : p ∈ l) (hc : p.2.cls = .type "tuple") : p ∈ tupsOf l := List.mem_filter.mpr ⟨h, decide_eq_true hc⟩
theorem tups_sub {p : Addr × Obj} {l : List (Addr × Obj)} (h : p ∈ tupsOf l) : p ∈ l := (List.mem_filter.mp h).1
theorem tups_cls {p : Addr × Obj} {l : List (Addr × Obj)} (h : p ∈ tupsOf l) : p.2.cls = .type "tuple" := of_decide_eq_true (List.mem_filter.mp h).2
theorem NoteAt.tups {l : List (Addr × Obj)} {v : Value} {nt : Note} (H : NoteAt l v nt) : NoteAt (tupsOf l) v nt := by
  cases nt with
  | num n => exact H
  | pair x y =>
    obtain ⟨D, t1, t2, k, e, hD⟩ := H
    exact ⟨D, t1, t2, k, e, mem_tups hD rfl⟩
  | deep x =>
    obtain ⟨D, D2, t1, t2, k, k2, e, hD, hD2⟩ := H
    exact ⟨D, D2, t1, t2, k, k2, e, mem_tups hD rfl, mem_tups hD2 rfl⟩
theorem tups_ne {h₀ h : Heap} {L l : Addr} {all : List (Addr × Obj)} {a : Array Value} {c : Nat} (N : News h₀ L h all) (hl : (l, W.listOf a c) ∈ all) : ∀ p ∈ tupsOf all, p.1 ≠ l := by
  intro p hp e
  have h1 := (N _ (tups_sub hp)).1
  have h2 := (N _ hl).1
  rw [e] at h1
  have h3 : p.2 = W.listOf a c := Option.some.inj (h1.symm.trans h2)
  have h4 := tups_cls hp
  rw [h3] at h4
  have h5 : Value.type "list" = Value.type "tuple" := h4
  exact absurd h5 (by decide)
theorem step_end {h₀ h : Heap} {L : Addr} {m1 m2 m3 rest : List (Addr × Obj)} {a b x pC pP : Addr × Obj} {v : Value} {nt : Note} (N : News h₀ L h (m3 ++ (m2 ++ (m1 ++ a :: b :: x :: rest))))
    (hC : pC ∈ m1 ++ a :: b :: x :: rest) (hP : pP ∈ m2 ++ (m1 ++ a :: b :: x :: rest)) (hT : NoteAt (m3 ++ (m2 ++ (m1 ++ a :: b :: x :: rest))) v nt) :
    ∃ all, News h₀ L h all ∧ (∀ p ∈ x :: rest, p ∈ all) ∧ pC ∈ all ∧ pP ∈ all ∧ NoteAt all v nt :=
  ⟨_, N, fun _ hp => List.mem_append_right _ (List.mem_append_right _ (List.mem_append_right _ (.tail _ (.tail _ hp)))), List.mem_append_right _ (List.mem_append_right _ hC), List.mem_append_right _ hP, hT⟩
theorem parts_len (i : Nat) (r : RowP) : (partA i).length + (partB r).length + partC.length + (partD r).length + 3 = (rowP i r).length := by
  unfold rowP joinL
  simp only [joinL, List.length_append, List.length_cons, List.length_nil]
  omega
local macro_rules | `(tactic| k_mem) => `(tactic| assumption)
theorem item1 {a x : Value} {l : List Value} : (List.toArray (a :: x :: l))[(1 : Int).toNat]? = some x := rfl
theorem item2 {a b x : Value} {l : List Value} : (List.toArray (a :: b :: x :: l))[(2 : Int).toNat]? = some x := rfl
theorem item3 {a b c x : Value} {l : List Value} : (List.toArray (a :: b :: c :: x :: l))[(3 : Int).toNat]? = some x := rfl
set_option maxRecDepth 100000 in
set_option maxHeartbeats 8000000 in
set_option pp.deepTerms false in
set_option pp.deepTerms.threshold 8 in
theorem read_step_does {w : World} {mean : ExcName → Option Value} {mg mb : Str → Option Value} {rest : List (Addr × Obj)} {x dx l nl : Addr} {ne cnt : Nat} {vs : List Value} {em : Int} {te t1 t2 t3 ty : Tok} {y : Str} {wv : Value} {i : Nat} {r : RowP}
    (hx : (x, instObj 227 dx) ∈ rest) (hdx : (dx, dictOf [⟨PyData.keyHash w.params (Str.ofString "steps"), .str (Str.ofString "steps") t1, .ref l⟩, ⟨PyData.keyHash w.params (Str.ofString "named"), .str (Str.ofString "named") t2, .ref nl⟩, ⟨PyData.keyHash w.params (Str.ofString "empty"), .str (Str.ofString "empty") t3, .int em te⟩] ne) ∈ rest)
    (hne : ∀ p ∈ rest, p.1 ≠ l) (hi : vs.length = i) (hi3 : i ≤ 3) (hy : y.cps.toList = rowP i r) (hyl : y.length ≤ 20000) (hr : NumL r.l r.v) (hrl : r.l.length ≤ 5000) (hv : r.v ≠ 0) (hs : r.nt.small) :
    Does w mean mg mb 277 [.ref x, .str y ty, wv] 30 ((l, W.listOf vs.toArray cnt) :: rest) (fun rr news' => ∃ T more, rr = .none ∧ news' = more ++ (l, W.listOf (vs ++ [Value.ref T]).toArray (cnt + 1)) :: rest ∧ StepAt news' r.v (.ref T) r.nt) := by
  k_with_none
  k_with "call builtin:str.split" => refine stop ?_
  k_with "call ref" => refine stop ?_
  k_with "subscriptTail Name Constant ref int" => (k_here; (with_reducible show wpAny _ _ (subscriptTail _ _ (Value.ref _) (Value.int _ _)) _ _ _); k_dflt (refine' item_listR (News.isList ?k1 ?k2) ?k3 ?k4 ?k5 ?_ ?k6; (case k1 => k_asm); (case k2 => k_mem); (case k3 => decide); (case k4 => decide); (case k5 => first | exact item0 | exact item1 | exact item2 | exact item3); (case k6 => with_unfolding_all rfl)))
  k_with "call type:str" => refine stop ?_
  k_with "call ref" => (k_here; (try dsimp only [List.cons_append, List.nil_append]); (with_reducible show wpAny _ _ (call (Value.ref 142) [Value.ref _]) _ _ _); k_dflt (refine' does_use (size_does ?h1 ?h2 ?h3 ?h4) ?k1 ?k2 ?k3 ?k4 ?k5 ?kK ?kd ?ku ?_; (case k1 => k_asm); (case k2 => k_asm); (case k3 => k_asm); (case k4 => k_asm); (case k5 => k_asm); (case kK => exact rfl); (case h1 => (first | exact List.Mem.tail _ (by assumption) | exact List.Mem.tail _ (List.Mem.tail _ (by assumption)) | exact List.Mem.tail _ (List.Mem.tail _ (List.Mem.tail _ (by assumption))) | exact List.Mem.tail _ (List.Mem.tail _ (List.Mem.head _)))); (case h2 => (first | exact List.Mem.tail _ (by assumption) | exact List.Mem.tail _ (List.Mem.tail _ (by assumption)) | exact List.Mem.tail _ (List.Mem.tail _ (List.Mem.tail _ (by assumption))) | exact List.Mem.tail _ (List.Mem.tail _ (List.Mem.head _)))); (case h3 => (first | exact List.Mem.tail _ (by assumption) | exact List.Mem.tail _ (List.Mem.tail _ (by assumption)) | exact List.Mem.tail _ (List.Mem.tail _ (List.Mem.tail _ (by assumption))) | exact List.Mem.tail _ (List.Mem.tail _ (List.Mem.head _)))); (case h4 => assumption); (case kd => ktr_room); (case ku => ktr_units)); intro v9Z news9Z h9Z tk9Z F9Z N9Z hp9Z; (obtain ⟨⟨t9Z, e9Z⟩, en9Z⟩ := hp9Z; subst e9Z en9Z); (try dsimp only); (try k_fold))
  k_with "call ref" => (k_here; (with_reducible show wpAny _ _ (call (Value.ref 263) [Value.str _ _, _]) _ _ _); k_dflt (refine' does_use (numbers_in_one ?h1 ?h2 ?h3 ?h4) ?k1 ?k2 ?k3 ?k4 ?k5 ?kK ?kd ?ku ?_; (case h1 => assumption); (case h2 => assumption); (case h3 => assumption); (case h4 => omega); (case k1 => k_asm); (case k2 => k_asm); (case k3 => k_asm); (case k4 => k_asm); (case k5 => k_asm); (case kK => exact rfl);(case kd => ktr_room); (case ku => ktr_units)); intro v9Z news9Z h9Z tk9Z F9Z N9Z hp9Z; (obtain ⟨C9Z, t9Z, e9Z, more9Z, en9Z, hC9Z⟩ := hp9Z; subst e9Z; subst en9Z); (try dsimp only); (try k_fold))
  k_with "call ref" => (k_here; (with_reducible show wpAny _ _ (call (Value.ref 263) [Value.str _ _, _]) _ _ _); k_dflt (refine' does_use (numbers_in_none ?h1 ?h4) ?k1 ?k2 ?k3 ?k4 ?k5 ?kK ?kd ?ku ?_; (case h1 => assumption); (case h4 => omega); (case k1 => k_asm); (case k2 => k_asm); (case k3 => k_asm); (case k4 => k_asm); (case k5 => k_asm); (case kK => exact rfl);(case kd => ktr_room); (case ku => ktr_units)); intro v9Z news9Z h9Z tk9Z F9Z N9Z hp9Z; (obtain ⟨P9Z, e9Z, more9Z, en9Z, hP9Z⟩ := hp9Z; subst e9Z; subst en9Z); (try dsimp only); (try k_fold))
  k_with "call ref" => (k_here; (with_reducible show wpAny _ _ (call (Value.ref 270) [Value.str _ _, _]) _ _ _); k_dflt (refine' does_use (note_from_does ?h1 ?h2 ?h3) ?k1 ?k2 ?k3 ?k4 ?k5 ?kK ?kd ?ku ?_; (case h1 => assumption); (case h2 => assumption); (case h3 => omega); (case k1 => k_asm); (case k2 => k_asm); (case k3 => k_asm); (case k4 => k_asm); (case k5 => k_asm); (case kK => exact rfl);(case kd => ktr_room); (case ku => ktr_units)); intro v9Z news9Z h9Z tk9Z F9Z N9Z hp9Z; (obtain ⟨more9Z, en9Z, hT9Z⟩ := hp9Z; subst en9Z); (try dsimp only); (try k_fold))
  unfold Does
  k_fill
  intro dp un gd cn cs a ccd cl outer A₀ base h₀ L m s Q E B F X N T hk hdp hun hret
  refine wpAny_call ?_
  k_dflt ktr_enter
  k_steps
  unfold Stop
  refine split_sign (c := 124) (ps := [partA i, partB r, partC, partD r]) (by decide +kernel) (by k_asm) (by k_asm) (by omega) (List.cons_ne_nil _ _) (parts_free i hr (.inr (.inr rfl))) hy ?_
  intro D ws ys h' k hss he F' N' hlt
  obtain ⟨p0, tp0, vs', ys', rfl, hp0, hl0, hss, he⟩ := strs_cons hss he
  obtain ⟨p1, tp1, vs', ys', rfl, hp1, hl1, hss, he⟩ := strs_cons hss he
  obtain ⟨p2, tp2, vs', ys', rfl, hp2, hl2, hss, he⟩ := strs_cons hss he
  obtain ⟨p3, tp3, vs', ys', rfl, hp3, hl3, hss, he⟩ := strs_cons hss he
  obtain rfl := strs_nil hss he
  clear hss he
  k_steps
  unfold Stop
  dsimp only
  have hyl2 := (len_eq y).trans (congrArg List.length hy)
  have hpl := parts_len i r
  have hdl : (partD r).length ≤ 9101 := Nat.succ_le_succ (noteL_len hs)
  refine split_words (by k_asm) (by k_asm) (by omega) ?_
  intro D2 ws ys h2 k2 hss he F2 N2 hlt2
  rw [hp0, words_A] at he
  obtain ⟨g0, tg0, vs', ys', rfl, hg0, _, hss, he⟩ := strs_cons hss he
  obtain ⟨g1, tg1, vs', ys', rfl, hg1, _, hss, he⟩ := strs_cons hss he
  obtain ⟨g2, tg2, vs', ys', rfl, hg2, _, hss, he⟩ := strs_cons hss he
  obtain rfl := strs_nil hss he
  clear hss he
  subst hi
  have hvs : vs.length ≤ 100 := by omega
  k_steps
  unfold Stop
  refine str_big (n := vs.length) rfl rfl (no_digits (by assumption) (by assumption)) (Nat.lt_of_lt_of_le (m := 10) (by omega) small_big) fun y' hy1 hy2 hy3 => ?_
  obtain rfl : y' = g1 := Str.ext' (Array.toList_inj.mp (hy1.trans hg1.symm))
  obtain rfl : g2 = Str.ofString "input" := Str.ext' (Array.toList_inj.mp (hg2.trans list_input.symm))
  have hw1 : wordsL p1.cps.toList = [r.l] := by rw [hp1]; exact words_B hr
  have hw2 : wordsL p2.cps.toList = [[45]] := by rw [hp2]; exact words_C
  have hw3 : wordsL (repl 41 closeW (repl 40 openW p3.cps.toList)) = noteW r.nt := by rw [hp3]; exact words_D r
  have hyy : (y' != y') = false := by simp
  k_steps
  unfold Stop
  k_here
  rename News _ _ _ _ => hN
  rename ((_, tup [Value.int _ _] 0) ∈ _) => hC
  rename ((_, tup [] 0) ∈ _) => hP
  rename NoteAt _ _ _ => hT
  obtain ⟨all, hA, hAll, hC', hP', hT'⟩ := step_end hN hC hP hT
  clear hN hC hP hT
  have hne2 : ∀ p ∈ tupsOf all ++ rest, p.1 ≠ l := fun p hp => (List.mem_append.mp hp).elim (tups_ne hA (hAll _ (.head _)) p) (hne p)
  refine' does_use (add_does (es := []) (rest := tupsOf all ++ rest) (List.mem_append_right _ hx) (List.mem_append_right _ hdx) (List.mem_append_left _ (mem_tups hC' rfl)) (List.mem_append_left _ (mem_tups hP' rfl)) hv hne2 hvs) ?k1 ?k2 ?k3 ?k4 ?k5 ?kK ?kd ?ku ?_
  case k1 => k_asm
  case k2 => k_asm
  case k3 => k_asm
  case k4 =>
    refine kst_newsOf hA fun p hp => ?_
    rcases List.mem_cons.mp hp with rfl | hp
    · exact hAll _ (.head _)
    · exact (List.mem_append.mp hp).elim tups_sub fun h => hAll _ (.tail _ h)
  case k5 => k_asm
  case kK => exact rfl
  case kd => ktr_room
  case ku => ktr_units
  intro v9 news9 h9 tk9 F9 N9 hp9
  obtain ⟨T9, t9, rfl, rfl, hT1, hT2⟩ := hp9
  k_steps
  rename News h₀ L h9 _ => hZ
  refine hret _ ((T9, tup [Value.str (Str.ofString "input") tg2, Value.ref _, Value.ref _, _] 0) :: tupsOf all ++ (l, W.listOf (vs ++ [Value.ref T9]).toArray (cnt + 1)) :: rest) _ _ (by k_asm) (kst_newsOf hZ fun p hp => ?_) ⟨T9, _, rfl, rfl, T9, _, _, _, tg2, _, _, _, rfl, .head _, .tail _ (List.mem_append_left _ (mem_tups hC' rfl)), .tail _ (List.mem_append_left _ (mem_tups hP' rfl)), hT'.tups.mono fun p hp => .tail _ (List.mem_append_left _ hp)⟩
  rcases List.mem_cons.mp hp with rfl | hp
  · exact .head _
  · rcases List.mem_append.mp hp with hp | hp
    · exact .tail _ (.tail _ (List.mem_append_left _ hp))
    · rcases List.mem_cons.mp hp with rfl | hp
      · exact .tail _ (.head _)
      · exact .tail _ (.tail _ (List.mem_append_right _ hp))
end Mine
end
section
open PySem PySem.W PyProof.Rows PyProof PySem.Calls
namespace Mine
open PySem.NumText (AllDigits digitsVal)
open PyProof.Rows.LCg
def RowsAt (news : List (Addr × Obj)) (vs : List Value) (rs : List RowP) : Prop :=
  vs.length = rs.length ∧ ∀ (i : Nat) r, rs[i]? = some r → ∃ v, vs[i]? = some v ∧ StepAt news r.v v r.nt
structure GrowS where
  vs : List Value
  cnt : Nat
  more : List (Addr × Obj)
theorem strs_at : ∀ {vs : List Value} {ys : List Str} {ps : List (List Nat)} {i : Nat} {c : List Nat}, StrsAre vs ys → ys.map codes = ps → ps[i]? = some c → ∃ y t, vs[i]? = some (Value.str y t) ∧ y.cps.toList = c ∧ y.length = c.length
  | _, _, [], _, _, _, _, hi => by simp at hi
  | vs, ys, p :: ps, i, c, h, e, hi => by
    obtain ⟨y, t, vs', ys', rfl, hy, hl, h', e'⟩ := strs_cons h e
    cases i with
    | zero =>
      have ec : p = c := by simpa using hi
      exact ⟨y, t, rfl, by rw [hy, ec], by rw [hl, ec]⟩
    | succ i =>
      obtain ⟨z, u, h1, h2, h3⟩ := strs_at (i := i) h' e' (by simpa using hi)
      exact ⟨z, u, by simpa using h1, h2, h3⟩
theorem strs_length : ∀ {vs : List Value} {ys : List Str}, StrsAre vs ys → vs.length = ys.length
  | _, _, .nil => rfl
  | _, _, .cons _ _ h => congrArg (· + 1) (strs_length h)
section
variable {D nl l x d : Addr} {oD on ol ox od : Obj} {news more own : List (Addr × Obj)} {h₀ h : Heap} {L : Addr}
theorem grow_start (N : News h₀ L h ((D, oD) :: (nl, on) :: (l, ol) :: (x, ox) :: (d, od) :: news)) : News h₀ L h ((l, ol) :: ([] ++ ((D, oD) :: (nl, on) :: (x, ox) :: (d, od) :: news))) := fun p hp => N p (by
  rcases List.mem_cons.mp hp with rfl | hp
  · exact .tail _ (.tail _ (.head _))
  · rw [List.nil_append] at hp
    rcases List.mem_cons.mp hp with rfl | hp
    · exact .head _
    · rcases List.mem_cons.mp hp with rfl | hp
      · exact .tail _ (.head _)
      · exact .tail _ (.tail _ (.tail _ hp)))
theorem fix_ne (q1 : x < l ∧ d < l ∧ AllLt l news) (q2 : l < nl ∧ x < nl ∧ d < nl ∧ AllLt nl news) (hlt : ∀ p ∈ (nl, on) :: (l, ol) :: (x, ox) :: (d, od) :: news, p.1 < D) : ∀ p ∈ (D, oD) :: (nl, on) :: (x, ox) :: (d, od) :: news, p.1 ≠ l := by
  intro p hp
  rcases List.mem_cons.mp hp with rfl | hp
  · exact (Nat.ne_of_lt (hlt _ (.tail _ (.head _)))).symm
  · rcases List.mem_cons.mp hp with rfl | hp
    · exact (Nat.ne_of_lt q2.1).symm
    · rcases List.mem_cons.mp hp with rfl | hp
      · exact Nat.ne_of_lt q1.1
      · rcases List.mem_cons.mp hp with rfl | hp
        · exact Nat.ne_of_lt q1.2.1
        · exact Nat.ne_of_lt (ktn_ltOf q1.2.2 p hp)
theorem fix_mems (_ : ∀ p ∈ (D, oD) :: (nl, on) :: (x, ox) :: (d, od) :: news, p.1 ≠ l) : (D, oD) ∈ (D, oD) :: (nl, on) :: (x, ox) :: (d, od) :: news ∧ (nl, on) ∈ (D, oD) :: (nl, on) :: (x, ox) :: (d, od) :: news ∧ (x, ox) ∈ (D, oD) :: (nl, on) :: (x, ox) :: (d, od) :: news ∧
    (d, od) ∈ (D, oD) :: (nl, on) :: (x, ox) :: (d, od) :: news ∧ ∀ p ∈ news, p ∈ (D, oD) :: (nl, on) :: (x, ox) :: (d, od) :: news :=
  ⟨.head _, .tail _ (.head _), .tail _ (.tail _ (.head _)), .tail _ (.tail _ (.tail _ (.head _))), fun _ h => .tail _ (.tail _ (.tail _ (.tail _ h)))⟩
end
theorem list_step4 : (Str.ofString "step").cps.toList = stepW := by unfold stepW; decide +kernel
theorem led_split {a b c d e : Addr × Obj} {m news : List (Addr × Obj)} : a :: (m ++ b :: c :: d :: e :: news) = (a :: (m ++ [b, c, d, e])) ++ news := by simp
theorem tups_neI {h₀ h : Heap} {L I : Addr} {it : Obj} {all : List (Addr × Obj)} (N : News h₀ L h all) (hI : (I, it) ∈ all) (hc : it.cls = .type "range_iterator") : ∀ p ∈ tupsOf all, p.1 ≠ I := by
  intro p hp e
  have h1 := (N _ (tups_sub hp)).1
  have h2 := (N _ hI).1
  rw [e] at h1
  have h3 : p.2 = it := Option.some.inj (h1.symm.trans h2)
  have h4 := tups_cls hp
  rw [h3, hc] at h4
  exact absurd h4 (by decide)
theorem grow_all {h₀ h : Heap} {L : Addr} {e : Addr × Obj} {more rest : List (Addr × Obj)} {c : Int} {v : Value} {nt : Note} (N : News h₀ L h (more ++ e :: rest)) (hT : StepAt (more ++ e :: rest) c v nt) :
    ∃ all, News h₀ L h all ∧ e ∈ all ∧ (∀ p ∈ rest, p ∈ all) ∧ StepAt all c v nt :=
  ⟨_, N, List.mem_append_right _ (.head _), fun _ hp => List.mem_append_right _ (.tail _ hp), hT⟩
theorem rest_ne {l I : Addr} {ol : Array Value} {k : Nat} {fixed : List (Addr × Obj)} {h₀ h : Heap} {L : Addr} {more own : List (Addr × Obj)} (N : News h₀ L h ((l, W.listOf ol k) :: (more ++ fixed) ++ own)) (hm : ∀ p ∈ more, p.2.cls = .type "tuple") (hf : ∀ p ∈ fixed, p.1 ≠ l)
    (ho : ∀ p ∈ own, p.1 = I) (hI : ∀ p ∈ (l, W.listOf ol k) :: (more ++ fixed), p.1 ≠ I) : ∀ p ∈ more ++ (fixed ++ own), p.1 ≠ l := by
  intro p hp
  rcases List.mem_append.mp hp with hp | hp
  · exact tups_ne N (.head _) p (mem_tups (List.mem_append_left _ (.tail _ (List.mem_append_left _ hp))) (hm p hp))
  · rcases List.mem_append.mp hp with hp | hp
    · exact hf p hp
    · rw [ho p hp]
      exact (hI _ (.head _)).symm
theorem RowsAt.mono {a b : List (Addr × Obj)} (h : ∀ p ∈ a, p ∈ b) {vs : List Value} {rs : List RowP} (H : RowsAt a vs rs) : RowsAt b vs rs :=
  ⟨H.1, fun i r e => (H.2 i r e).imp fun _ q => ⟨q.1, q.2.mono h⟩⟩
theorem StepAt.tups {l : List (Addr × Obj)} {c : Int} {v : Value} {nt : Note} (H : StepAt l c v nt) : StepAt (tupsOf l) c v nt := by
  obtain ⟨T, C, P, nv, t0, t1, kc, kp, e, h1, h2, h3, h4⟩ := H
  exact ⟨T, C, P, nv, t0, t1, kc, kp, e, mem_tups h1 rfl, mem_tups h2 rfl, mem_tups h3 rfl, h4.tups⟩
theorem RowsAt.nil {a : List (Addr × Obj)} : RowsAt a [] [] := ⟨rfl, fun i r e => by simp at e⟩
theorem RowsAt.snoc {a : List (Addr × Obj)} {vs : List Value} {rs : List RowP} {v : Value} {r : RowP} (H : RowsAt a vs rs) (h : StepAt a r.v v r.nt) : RowsAt a (vs ++ [v]) (rs ++ [r]) := by
  refine ⟨by rw [List.length_append, List.length_append, H.1]; rfl, fun i x e => ?_⟩
  rcases Nat.lt_trichotomy i rs.length with hi | hi | hi
  · rw [List.getElem?_append_left hi] at e
    obtain ⟨y, e1, e2⟩ := H.2 i x e
    exact ⟨y, by rw [List.getElem?_append_left (by rw [H.1]; exact hi)]; exact e1, e2⟩
  · subst hi
    rw [List.getElem?_append_right (Nat.le_refl _), Nat.sub_self] at e
    simp at e
    subst e
    exact ⟨v, by rw [← H.1, List.getElem?_append_right (Nat.le_refl _), Nat.sub_self]; rfl, h⟩
  · rw [List.getElem?_eq_none (by rw [List.length_append]; simp; omega)] at e
    exact nomatch e
local macro_rules | `(tactic| k_mem) => `(tactic| first | with_unfolding_all assumption)
local macro_rules | `(tactic| walk_at "pyIter ref") => `(tactic| refine stop ?_)
set_option maxRecDepth 100000 in
set_option maxHeartbeats 8000000 in
set_option pp.deepTerms false in
set_option pp.deepTerms.threshold 8 in
theorem read_proof_does {w : World} {mean : ExcName → Option Value} {mg mb : Str → Option Value} {news : List (Addr × Obj)} {y : Str} {ty : Tok} {ps : List (List Nat)} {rs : List RowP}
    (R : Rows ps rs) (hy : y.cps.toList = joinL [10] ps) (hyl : y.length ≤ 200000) (hy0 : (y != Str.ofString "") = true) :
    Does w mean mg mb 284 [.str y ty] 36 news (fun r news' => ∃ x dx l nl ne cnt vs em te t1 t2 t3 more, r = .ref x ∧ news' = more ++ news ∧ (x, instObj 227 dx) ∈ news' ∧
      (dx, dictOf [⟨PyData.keyHash w.params (Str.ofString "steps"), .str (Str.ofString "steps") t1, .ref l⟩, ⟨PyData.keyHash w.params (Str.ofString "named"), .str (Str.ofString "named") t2, .ref nl⟩, ⟨PyData.keyHash w.params (Str.ofString "empty"), .str (Str.ofString "empty") t3, .int em te⟩] ne) ∈ news' ∧
      (l, W.listOf vs.toArray cnt) ∈ news' ∧ RowsAt news' vs rs) := by
  k_with_none
  k_with "call builtin:str.split" => refine stop ?_
  k_with "call builtin:len" => (k_here; (with_reducible show wpAny _ _ (call (Value.builtin "len") [Value.ref _]) _ _ _); k_dflt (refine' kun_lenL (items := List.toArray _) ?k1 ?k2 ?k3 ?_; (case k1 => exact News.isList (by k_asm) (by k_mem)); (case k2 => first | assumption | exact rfl); (case k3 => first | exact small_count (by assumption) (by decide) | omega); k_whole))
  k_with "call type:range" => ((rename Fr _ _ _ _ => F'Z); (rename News _ _ _ _ => N'Z); first | (with_unfolding_all refine range1_rows F'Z N'Z ?_; intro _ _ _ _ _ _ _ _ _) | (with_unfolding_all refine range2_rows F'Z N'Z ?_; intro _ _ _ _ _ _ _ _ _))
  k_with "call ref" => (k_here; (with_reducible show wpAny _ _ (call (Value.ref 227) _) _ _ _); k_dflt (refine' call_cls ?k1 ?k2 ?k3 ?k4 ?k5 ?k6 ?_; (case k1 => k_asm); (case k2 => k_asm); (case k3 => k_asm); (case k4 => k_is); (case k5 => k_is); (case k6 => k_is); k_whole; intro x'Z d'Z h'Z F'Z N'Z l1Z l2Z; (try k_lt l1Z); (try k_lt2 l2Z); (try k_sweep); refine' code_def ?k1 ?k2 ?k3 ?k4 ?k5 ?kA ?kF ?kK ?k6 ?k7 ?k8 ?k9 ?kB ?_ ?c2 ?c3 ?c4 ?c5; (case kA => exact rfl); (case kF => exact rfl); (case kK => exact rfl); (case k1 => k_asm); (case k2 => k_asm); (case k3 => k_asm); (case k4 => k_asm); (case k5 => k_asm); (case k6 => k_is); (case k7 => k_is); (case k8 => ktr_room); (case k9 => exact BindsTo.of_eq rfl); (case c5 => decide); (case kB => exact locs rfl); (case c2 => exact rfl); (case c3 => exact rfl); (case c4 => exact rfl); k_whole; intro g'Z L'Z h'Z FG'Z F'Z N'Z B'Z X'Z T'Z; (try dsimp only); (try k_fold)))
  k_with "subscriptTail" => (k_here; (with_reducible rename (_[_]? = some (Value.str _ _)) => hvIZ); (with_reducible show wpAny _ _ (subscriptTail _ _ (Value.ref _) (Value.int _ _)) _ _ _); k_dflt (refine' item_listR (items := List.toArray _) (News.isList ?k1 ?k2) ?k3 ?k4 (item_at hvIZ ?k5) ?_ ?k6; (case k1 => k_asm); (case k2 => k_mem); (case k3 => omega); (case k4 => omega); (case k5 => omega); (case k6 => with_unfolding_all rfl)))
  k_with "subscriptTail" => (k_here; (with_reducible show wpAny _ _ (subscriptTail _ _ (Value.ref _) (Value.int 0 _)) _ _ _); k_dflt (refine' item_listR (News.isList ?k1 (.head _)) ?k3 ?k4 item0 ?_ ?k6; (case k1 => k_asm); (case k3 => decide); (case k4 => decide); (case k6 => with_unfolding_all rfl)))
  k_with "subscriptTail Name Constant ref int" => (k_here; (with_reducible show wpAny _ _ (subscriptTail _ _ (Value.ref _) (Value.int 0 _)) _ _ _); k_dflt (refine' item_listR (News.isList ?k1 (.head _)) ?k3 ?k4 item0 ?_ ?k6; (case k1 => k_asm); (case k3 => decide); (case k4 => decide); (case k6 => with_unfolding_all rfl)))
  k_with "call ref" => ((with_reducible show wpAny _ _ (call (Value.ref 277) _) _ _ _); refine stop ?_)
  k_with "LoopStepU" => refine stop ?_
  unfold Does
  k_fill
  intro dp un gd cn cs a ccd cl outer A₀ base h₀ L m s Q E B F X N T hk hdp hun hret
  refine wpAny_call ?_
  k_dflt ktr_enter
  k_steps
  unfold Stop
  refine split_sign (c := 10) (ps := ps) (by decide +kernel) (by k_asm) (by k_asm) (by omega) R.some (fun p hp => (R.free p hp).1) hy ?_
  intro D vs0 ys h' k hss he F' N' hlt
  have hvl : vs0.length = ps.length := by
    have h1 := congrArg List.length he
    rw [List.length_map] at h1
    have h2 := hss.length
    omega
  have hv4 : vs0.length ≤ 4 := by have := R.len; omega
  k_steps
  unfold Stop
  rename IsRange _ _ _ _ _ _ _ _ => rgX
  rename Fr _ _ _ _ => lF'
  rename News _ _ _ _ => lN'
  rename (_ < _ ∧ _ < _ ∧ _ < _ ∧ AllLt _ news) => q2
  rename (_ < _ ∧ _ < _ ∧ AllLt _ news) => q1
  have hfix := fix_ne (oD := W.listOf vs0.toArray 0) q1 q2 hlt
  have lN2 := grow_start lN'
  obtain ⟨mD, mnl, mx, md, mnews⟩ := fix_mems hfix
  refine' range_grow (σ := GrowS) (n := ps.length) (fun g => (_, W.listOf g.vs.toArray g.cnt) :: (g.more ++ _)) (fun g => []) [Str.ofString "where", Str.ofString "row", Str.ofString "words"]
    (fun i g => RowsAt g.more g.vs (rs.take i) ∧ ∀ p ∈ g.more, p.2.cls = .type "tuple")
    ⟨[], 0, []⟩ rfl rgX ?hs ?hn lF' lN2 ?hk ⟨RowsAt.nil, fun p hp => nomatch hp⟩ ?turn ?done
  case hk => exact fun p hp => nomatch hp
  case hs => exact small_one (by decide) (by decide) (by rw [List.size_toArray]; omega) (by rw [List.size_toArray]; omega)
  case hn =>
    unfold Builtin.Range.rangeSize
    rw [← hvl]
    simp
    exact fun e => by rw [e]; rfl
  case turn =>
    intro g i t u h tk own I it hi' hP hmem hcls hown hIne F' N'
    clear lF' lN' lN2 rgX
    obtain ⟨hg1, hg2⟩ := hP
    have hne' := rest_ne N' hg2 hfix hown hIne
    rw [List.cons_append, List.append_assoc] at N'
    generalize hrest : g.more ++ (_ ++ own) = rest at N' hne'
    have rfx : ∀ p ∈ _, p ∈ rest := fun p hp => hrest ▸ List.mem_append_right g.more (List.mem_append_left own hp)
    have row : ∀ p ∈ own, p ∈ rest := fun p hp => hrest ▸ List.mem_append_right g.more (List.mem_append_right _ hp)
    have rmo : ∀ p ∈ g.more, p ∈ rest := fun p hp => hrest ▸ List.mem_append_left _ hp
    have hD' := rfx _ mD
    have hx' := rfx _ mx
    have hdx' := rfx _ md
    obtain ⟨yr, tr, hvi, hyr, hyrl⟩ := strs_at hss he (List.getElem?_eq_getElem hi')
    obtain ⟨_, hfr, hrl⟩ := R.free _ (List.getElem_mem hi')
    clear hrest
    k_steps
    unfold Stop
    refine split_sign (c := 59) (ps := [ps[i]]) (by decide +kernel) (by k_asm) (by k_asm) (by omega) (List.cons_ne_nil _ _) (fun p hp => List.mem_singleton.mp hp ▸ hfr) (show _ = joinL [59] [ps[i]] from hyr) ?_
    intro D1 ws1 ys1 h1 k1 hs1 he1 F1 N1 hlt1
    obtain ⟨yq, tq, vs', ys', rfl, hyq, hyql, hs1, he1⟩ := strs_cons hs1 he1
    obtain rfl := strs_nil hs1 he1
    clear hs1 he1
    k_steps
    unfold Stop
    refine split_words (by k_asm) (by k_asm) (by omega) ?_
    intro D2 ws2 ys2 h2 k2 hs2 he2 F2 N2 hlt2
    rw [hyq] at he2
    by_cases hir : i < rs.length
    · have hri := List.getElem?_eq_getElem hir
      have hpe : ps[i] = rowP i rs[i] := Option.some.inj ((List.getElem?_eq_getElem hi').symm.trans (R.row i _ hri))
      obtain ⟨more, hmw⟩ := words_row i rs[i]
      have hcnt := words_count (rowP i rs[i])
      rw [← hpe] at hmw hcnt
      rw [hmw] at he2 hcnt
      obtain ⟨g0, tg0, vs', ys', rfl, hg0, _, hs2, he2⟩ := strs_cons hs2 he2
      obtain ⟨g1, tg1, vs', ys', rfl, hg1, _, hs2, he2⟩ := strs_cons hs2 he2
      obtain ⟨g2, tg2, vs', ys', rfl, hg2, _, hs2, he2⟩ := strs_cons hs2 he2
      obtain ⟨g3, tg3, vs', ys', rfl, hg3, _, hs2, he2⟩ := strs_cons hs2 he2
      have hvm : vs'.length = more.length := by
        have h1 := congrArg List.length he2
        rw [List.length_map] at h1
        have h2 := strs_length hs2
        omega
      simp only [List.length_cons] at hcnt
      obtain ⟨nw, hnw⟩ : ∃ nw : Int, ((List.toArray (Value.str g0 tg0 :: Value.str g1 tg1 :: Value.str g2 tg2 :: Value.str g3 tg3 :: vs')).size : Int) = nw := ⟨_, rfl⟩
      have hnw1 : 4 ≤ nw := by
        rw [List.size_toArray] at hnw
        simp only [List.length_cons] at hnw
        omega
      have hnw2 : nw ≤ 16384 := by
        rw [List.size_toArray] at hnw
        simp only [List.length_cons] at hnw
        omega
      obtain rfl : g0 = Str.ofString "step" := Str.ext' (Array.toList_inj.mp (hg0.trans list_step4.symm))
      clear hs2 he2 hmw hcnt hvm hg0 hg1 hg2 hg3
      have hvi2 : g.vs.length = i := by
        rw [hg1.1, List.length_take]; omega
      have hi3 : i ≤ 3 := by have := R.few; omega
      obtain ⟨r1, r2, r3, r4⟩ := R.ok _ (List.getElem_mem hir)
      k_steps
      any_goals (exfalso; omega)
      unfold Stop
      k_here
      refine' does_use (read_step_does (rest := rest) hx' hdx' hne' hvi2 hi3 (hyq.trans hpe) (by omega) r1 r2 r3 r4) ?k1 ?k2 ?k3 ?k4 ?k5 ?kK ?kd ?ku ?_
      case k1 => k_asm
      case k2 => k_asm
      case k3 => k_asm
      case k4 => exact kst_newsOf (by k_asm) fun p hp => .tail _ (.tail _ hp)
      case k5 => k_asm
      case kK => exact rfl
      case kd => ktr_room
      case ku => ktr_units
      intro v9 news9 h9 tk9 F9 N9 hp9
      obtain ⟨T9, more9, rfl, rfl, hT9⟩ := hp9
      (try dsimp only)
      (try k_fold)
      k_steps
      unfold Stop
      rename News _ _ h9 _ => hZ
      obtain ⟨all, hA, hl1, hr1, hT1⟩ := grow_all hZ hT9
      refine grow_end ⟨g.vs ++ [Value.ref T9], g.cnt + 1, tupsOf all⟩ (by assumption) hA ?en ?eo ?ea ?ek ?es ?ep
      case ek => exact fun p hp => nomatch hp
      case en =>
        intro p hp
        rcases List.mem_cons.mp hp with rfl | hp
        · exact hl1
        · rcases List.mem_append.mp hp with hp | hp
          · exact tups_sub hp
          · exact hr1 _ (rfx p hp)
      case eo => exact fun p hp => hr1 _ (row p hp)
      case ea =>
        intro p hp
        rcases List.mem_cons.mp hp with rfl | hp
        · exact hIne (_, W.listOf g.vs.toArray g.cnt) (.head _)
        · rcases List.mem_append.mp hp with hp | hp
          · exact tups_neI hA (hr1 _ (row _ hmem)) hcls p hp
          · exact hIne _ (.tail _ (List.mem_append_right _ hp))
      case es =>
        intro z h1 h2 h3
        simp only [List.contains_cons, List.contains_nil, Bool.or_false, Bool.or_eq_false_iff, beq_eq_false_iff_ne, ne_eq] at h3
        simp [kstB, h1, h3]
      case ep =>
        rw [take_snoc hri]
        exact ⟨RowsAt.snoc (hg1.mono fun p hp => mem_tups (hr1 _ (rmo p hp)) (hg2 p hp)) hT1.tups, fun p hp => tups_cls hp⟩
    · have hpn : ps[i] = [] := Option.some.inj ((List.getElem?_eq_getElem hi').symm.trans (R.none i (by omega) hi'))
      rw [hpn] at he2
      obtain rfl := strs_nil hs2 he2
      k_steps
      unfold Stop
      rename News _ _ _ (_ :: _ :: _ :: rest) => hZ
      refine grow_end g (by assumption) hZ ?en ?eo ?ea ?ek ?es ?ep
      case ek => exact fun p hp => nomatch hp
      case en =>
        intro p hp
        rcases List.mem_cons.mp hp with rfl | hp
        · exact .tail _ (.tail _ (.head _))
        · rcases List.mem_append.mp hp with hp | hp
          · exact .tail _ (.tail _ (.tail _ (rmo p hp)))
          · exact .tail _ (.tail _ (.tail _ (rfx p hp)))
      case eo => exact fun p hp => .tail _ (.tail _ (.tail _ (row p hp)))
      case ea => exact hIne
      case es =>
        intro z h1 h2 h3
        simp only [List.contains_cons, List.contains_nil, Bool.or_false, Bool.or_eq_false_iff, beq_eq_false_iff_ne, ne_eq] at h3
        simp [kstB, h1, h3]
      case ep =>
        rw [List.take_of_length_le (by omega)] at hg1
        rw [List.take_of_length_le (by omega)]
        exact ⟨hg1, hg2⟩
  case done =>
    intro g u h tk hP F' N'
    clear lF' lN' lN2 rgX
    obtain ⟨hg1, hg2⟩ := hP
    rw [List.take_of_length_le R.le] at hg1
    k_steps
    refine hret _ ((_, W.listOf g.vs.toArray g.cnt) :: (g.more ++ _)) _ _ (by k_asm) (by k_asm) ⟨_, _, _, _, _, _, g.vs, _, _, _, _, _, _, rfl, led_split, .tail _ (List.mem_append_right _ mx), .tail _ (List.mem_append_right _ md), .head _, hg1.mono fun p hp => .tail _ (List.mem_append_left _ hp)⟩
end Mine
end
section
open PySem PySem.W PyProof.Rows PyProof PySem.Calls
namespace Mine
open PySem.NumText (AllDigits digitsVal)
open PyProof.Rows.LCg
def noteD : Note → Dat
  | .num n => .int n
  | .pair a b => .tuple [.int a, .int b]
  | .deep a => .tuple [.tuple [.int a], .str (Str.ofString "word"), .none]
def stepD (c : Int) (nt : Note) : Dat := .tuple [.str (Str.ofString "input"), .tuple [.int c], .tuple [], noteD nt]
theorem noteD_ok (nt : Note) : kqdOk 6 (noteD nt) = true := by
  cases nt with
  | num n => rfl
  | pair a b => rfl
  | deep a =>
    have h : PyData.strOk (Str.ofString "word") = true := by decide +kernel
    simp [noteD, kqdOk, h]
theorem stepD_ok (c : Int) (nt : Note) : kqdOk 8 (stepD c nt) = true := by
  have h : PyData.strOk (Str.ofString "input") = true := by decide +kernel
  have h2 : kqdOk 7 (noteD nt) = true := by
    cases nt with
    | num n => rfl
    | pair a b => rfl
    | deep a =>
      have h : PyData.strOk (Str.ofString "word") = true := by decide +kernel
      simp [noteD, kqdOk, h]
  simp [stepD, kqdOk, h, h2]
theorem note_dat {news : List (Addr × Obj)} {v : Value} {nt : Note} (H : NoteAt news v nt) : DatIn news v (noteD nt) := by
  cases nt with
  | num n =>
    obtain ⟨t, rfl⟩ := H
    exact .int _ _
  | pair a b =>
    obtain ⟨D, t1, t2, k, rfl, hD⟩ := H
    exact .tuple (vs := [.int a t1, .int b t2]) hD (.cons (.int _ _) (.cons (.int _ _) .nil))
  | deep a =>
    obtain ⟨D, D2, t1, t2, k, k2, rfl, hD, hD2⟩ := H
    exact .tuple (vs := [.ref D2, .str (Str.ofString "word") t2, .none]) hD (.cons (.tuple (vs := [.int a t1]) hD2 (.cons (.int _ _) .nil)) (.cons (.str _ _) (.cons .none .nil)))
theorem step_dat {news : List (Addr × Obj)} {c : Int} {v : Value} {nt : Note} (H : StepAt news c v nt) : DatIn news v (stepD c nt) := by
  obtain ⟨T, C, P, nv, t0, t1, kc, kp, rfl, hT, hC, hP, hn⟩ := H
  exact .tuple (vs := [.str (Str.ofString "input") t0, .ref C, .ref P, nv]) hT (.cons (.str _ _) (.cons (.tuple (vs := [.int c t1]) hC (.cons (.int _ _) .nil)) (.cons (.tuple (vs := []) hP .nil) (.cons (note_dat hn) .nil))))
theorem rows_dat {news : List (Addr × Obj)} : ∀ {rs : List RowP} {vs : List Value}, RowsAt news vs rs → DatAll news vs (rs.map fun r => stepD r.v r.nt)
  | [], vs, H => by
    have h : vs = [] := List.length_eq_zero_iff.mp H.1
    subst h
    exact .nil
  | r :: rs, [], H => nomatch H.1
  | r :: rs, v :: vs, H => by
    obtain ⟨y, e1, e2⟩ := H.2 0 r rfl
    have e : v = y := by simpa using e1
    subst e
    refine .cons (step_dat e2) (rows_dat ⟨Nat.succ.inj H.1, fun i x h => ?_⟩)
    exact H.2 (i + 1) x (by simpa using h)
theorem rows_steps {news : List (Addr × Obj)} {vs : List Value} {nts : List Note} (H : StepsAt news vs nts) : RowsAt news vs (rsOf 0 nts) := by
  refine ⟨by rw [rsOf_length]; exact H.1, fun i r h => ?_⟩
  have hi : i < nts.length := by
    have := (List.getElem?_eq_some_iff.mp h).1
    rwa [rsOf_length] at this
  have e := rsOf_get nts 0 i _ (List.getElem?_eq_getElem hi)
  rw [h] at e
  have e2 := Option.some.inj e
  subst e2
  obtain ⟨v, h1, h2⟩ := H.2 i _ (List.getElem?_eq_getElem hi)
  exact ⟨v, h1, by rw [Nat.zero_add]; exact h2⟩
section
variable {prog : Program} {w : World} {A : Around} {E : Value → Shared → Prop} {s : Shared} {h₀ : Heap} {L : Addr} {news : List (Addr × Obj)} {Q : Value → Shared → Prop}
theorem eq_rows {a b : Addr} {xs ys : List Value} {ka kb : Nat} {ds : List Dat} (N : News h₀ L s.heap news) (ma : (a, W.listOf xs.toArray ka) ∈ news) (Da : DatAll news xs ds) (mb : (b, W.listOf ys.toArray kb) ∈ news) (Db : DatAll news ys ds)
    (hk : ∀ d ∈ ds, kqdOk 8 d = true) (hu : A.units + 64 < cLine) (h : Q (.bool true) s) : wpAny (model prog w) A (compareOp .Eq (.ref a) (.ref b)) Q E s := by
  refine kqd_eq N ma rfl rfl Da (fun _ h => h) mb rfl rfl Db (fun _ h => h) hk hk hu ?_
  simpa using h
end
theorem steps_ok (rs : List RowP) : ∀ d ∈ rs.map (fun r => stepD r.v r.nt), kqdOk 8 d = true := by
  intro d hd
  obtain ⟨r, _, rfl⟩ := List.mem_map.mp hd
  exact stepD_ok _ _
end Mine
end
section
open PySem PySem.W PyProof.Rows PyProof PySem.Calls
namespace Mine
open PySem.NumText (AllDigits digitsVal)
open PyProof.Rows.LCg
theorem list_head : (Str.ofString "step 0 input | ").cps.toList = [115, 116, 101, 112, 32, 48, 32, 105, 110, 112, 117, 116, 32, 124, 32] := by decide +kernel
theorem list_back : (Str.ofString " | - | 7\n").cps.toList = [32, 124, 32, 45, 32, 124, 32, 55, 10] := by decide +kernel
theorem len_head : (Str.ofString "step 0 input | ").length = 15 := by decide +kernel
theorem len_back : (Str.ofString " | - | 7\n").length = 9 := by decide +kernel
theorem dec0 : decL 0 = [48] := by decide +kernel
theorem int7 : intL 7 = [55] := by decide +kernel
theorem one_row {y x : Str} {v : Int} (hy : y.cps.toList = (Str.ofString "step 0 input | ").cps.toList ++ x.cps.toList ++ (Str.ofString " | - | 7\n").cps.toList) : y.cps.toList = joinL [10] (rowsP 0 [⟨x.cps.toList, v, .num 7⟩] ++ [[]]) := by
  rw [hy, list_head, list_back]
  simp [rowsP, rowP, partA, partB, partC, partD, stepW, inputW, joinL, dec0, noteL, int7]
theorem ne_empty {y : Str} (h : 0 < y.length) : (y != Str.ofString "") = true := by
  rw [bne_iff_ne]
  intro e
  rw [e] at h
  exact absurd h (by decide +kernel)
theorem rows_one {l : List Nat} {v : Int} (hl : NumL l v) (h5 : l.length ≤ 5000) (hv : v ≠ 0) : Rows (rowsP 0 [⟨l, v, .num 7⟩] ++ [[]]) [⟨l, v, .num 7⟩] :=
  rows_tail (show 1 ≤ 3 by decide) fun r hr => by
    rw [List.mem_singleton.mp hr]
    exact ⟨hl, h5, hv, Nat.lt_of_lt_of_le (m := 10 ^ 1) (by decide) (Nat.pow_le_pow_right (by decide) (by decide))⟩
theorem one_dat {news : List (Addr × Obj)} {T C P : Addr} {t0 t1 t2 : Tok} {kt kc kp : Nat} {c : Int} (hT : (T, tup [.str (Str.ofString "input") t0, .ref C, .ref P, .int 7 t2] kt) ∈ news) (hC : (C, tup [.int c t1] kc) ∈ news) (hP : (P, tup [] kp) ∈ news) :
    DatAll news [.ref T] [stepD c (.num 7)] :=
  .cons (.tuple (vs := [.str (Str.ofString "input") t0, .ref C, .ref P, .int 7 t2]) hT (.cons (.str _ _) (.cons (.tuple (vs := [.int c t1]) hC (.cons (.int _ _) .nil)) (.cons (.tuple (vs := []) hP .nil) (.cons (.int _ _) .nil))))) .nil
local macro_rules | `(tactic| k_mem) => `(tactic| first | with_unfolding_all assumption)
set_option maxRecDepth 100000 in
set_option maxHeartbeats 8000000 in
set_option pp.deepTerms false in
set_option pp.deepTerms.threshold 8 in
theorem step_right_plus {w : World} {mean : ExcName → Option Value} {mg mb : Str → Option Value} {news : List (Addr × Obj)} {x : Str} {t u us : Tok} {v : Int}
    (hd : NumL x.cps.toList v) (hx : x.length ≤ 4500) (hmul : IntMulOk 1 v) :
    Does w mean mg mb 319 [.str x t, .int v u, .int 1 us] 40 news (fun r news' => r = .bool true) := by
  k_with_none
  k_with "call ref" => ((with_reducible show wpAny _ _ (call (Value.ref 284) _) _ _ _); refine stop ?_)
  k_with "compareOp Eq ref ref" => refine stop ?_
  k_with "binaryOp Mult int int" => ((with_reducible rename IntMulOk _ _ => hmulZ); (with_reducible refine mul_int ?_ ?hm); (case hm => exact hmulZ))
  unfold Does
  k_fill
  intro dp un gd cn cs a ccd cl outer A₀ base h₀ L m s Q E B F X N T hk hdp hun hret
  refine wpAny_call ?_
  k_dflt ktr_enter
  k_steps
  · exact hret _ _ _ _ (by k_asm) (by k_asm) rfl
  unfold Stop
  k_here
  rename (v ≠ 0) => hv0
  have hv1 : (1 : Int) * v ≠ 0 := by rw [Int.one_mul]; exact hv0
  have hd1 : NumL x.cps.toList (1 * v) := by rw [Int.one_mul]; exact hd
  have hl5 : x.cps.toList.length ≤ 5000 := by rw [← len_eq]; omega
  have h15 := len_head
  have h9 := len_back
  refine' does_use (read_proof_does (rows_one hd1 hl5 hv1) (one_row (by rw [cps_app, cps_app])) ?h2 (ne_empty ?h1)) ?k1 ?k2 ?k3 ?k4 ?k5 ?kK ?kd ?ku ?_
  case h2 => simp only [Str.length_append]; omega
  case h1 => simp only [Str.length_append]; omega
  case k1 => k_asm
  case k2 => k_asm
  case k3 => k_asm
  case k4 => k_asm
  case k5 => k_asm
  case kK => exact rfl
  case kd => ktr_room
  case ku => ktr_units
  intro v9 news9 h9 tk9 F9 N9 hp9
  obtain ⟨x9, dx9, l9, nl9, ne9, cnt9, vs9, em9, te9, t1, t2, t3, more9, rfl, rfl, hx9, hdx9, hl9, hr9⟩ := hp9
  generalize more9 ++ news = news8 at N9 hx9 hdx9 hl9 hr9
  (try dsimp only)
  (try k_fold)
  k_steps
  unfold Stop
  rename News _ _ _ (_ :: _ :: _ :: _ :: news8) => hN
  refine eq_rows hN (.tail _ (.tail _ (.tail _ (.tail _ hl9)))) ((rows_dat hr9).mono fun p hp => .tail _ (.tail _ (.tail _ (.tail _ hp)))) (.head _) (one_dat (.tail _ (.head _)) (.tail _ (.tail _ (.tail _ (.head _)))) (.tail _ (.tail _ (.head _)))) (steps_ok _) (by ktr_units) ?_
  k_steps
  exact hret _ _ _ _ (by k_asm) (by k_asm) rfl
set_option maxRecDepth 100000 in
set_option maxHeartbeats 8000000 in
set_option pp.deepTerms false in
set_option pp.deepTerms.threshold 8 in
theorem step_right_minus {w : World} {mean : ExcName → Option Value} {mg mb : Str → Option Value} {news : List (Addr × Obj)} {x : Str} {t u us : Tok} {v : Int}
    (hd : NumL (Str.ofString "-" ++ x).cps.toList (-1 * v)) (hx : x.length ≤ 4500) (hmul : IntMulOk (-1) v) :
    Does w mean mg mb 319 [.str x t, .int v u, .int (-1) us] 40 news (fun r news' => r = .bool true) := by
  k_with_none
  k_with "call ref" => ((with_reducible show wpAny _ _ (call (Value.ref 284) _) _ _ _); refine stop ?_)
  k_with "compareOp Eq ref ref" => refine stop ?_
  k_with "binaryOp Mult int int" => ((with_reducible rename IntMulOk _ _ => hmulZ); (with_reducible refine mul_int ?_ ?hm); (case hm => exact hmulZ))
  unfold Does
  k_fill
  intro dp un gd cn cs a ccd cl outer A₀ base h₀ L m s Q E B F X N T hk hdp hun hret
  refine wpAny_call ?_
  k_dflt ktr_enter
  k_steps
  · exact hret _ _ _ _ (by k_asm) (by k_asm) rfl
  unfold Stop
  k_here
  rename (v ≠ 0) => hv0
  have hv1 : (-1 : Int) * v ≠ 0 := by omega
  have hm1 := minus_len
  have hl5 : (Str.ofString "-" ++ x).cps.toList.length ≤ 5000 := by rw [← len_eq, Str.length_append]; omega
  have h15 := len_head
  have h9 := len_back
  refine' does_use (read_proof_does (rows_one hd hl5 hv1) (one_row (by rw [cps_app, cps_app])) ?h2 (ne_empty ?h1)) ?k1 ?k2 ?k3 ?k4 ?k5 ?kK ?kd ?ku ?_
  case h2 => simp only [Str.length_append]; omega
  case h1 => simp only [Str.length_append]; omega
  case k1 => k_asm
  case k2 => k_asm
  case k3 => k_asm
  case k4 => k_asm
  case k5 => k_asm
  case kK => exact rfl
  case kd => ktr_room
  case ku => ktr_units
  intro v9 news9 h9 tk9 F9 N9 hp9
  obtain ⟨x9, dx9, l9, nl9, ne9, cnt9, vs9, em9, te9, t1, t2, t3, more9, rfl, rfl, hx9, hdx9, hl9, hr9⟩ := hp9
  generalize more9 ++ news = news8 at N9 hx9 hdx9 hl9 hr9
  (try dsimp only)
  (try k_fold)
  k_steps
  unfold Stop
  rename News _ _ _ (_ :: _ :: _ :: _ :: news8) => hN
  refine eq_rows hN (.tail _ (.tail _ (.tail _ (.tail _ hl9)))) ((rows_dat hr9).mono fun p hp => .tail _ (.tail _ (.tail _ (.tail _ hp)))) (.head _) (one_dat (.tail _ (.head _)) (.tail _ (.tail _ (.tail _ (.head _)))) (.tail _ (.tail _ (.head _)))) (steps_ok _) (by ktr_units) ?_
  k_steps
  exact hret _ _ _ _ (by k_asm) (by k_asm) rfl
open PySem PySem.W PyProof.Rows PyProof PySem.Calls
open PySem.NumText (AllDigits digitsVal)
open PyProof.Rows.LCg
structure ProofS where
  vs : List Value
  cnt : Nat
  o : Obj
  k : Int
  more : List (Addr × Obj)
  nts : List Note
section
variable {nl l x dx d : Addr} {on ol ox od o : Obj} {rest more own : List (Addr × Obj)} {h₀ h : Heap} {L : Addr}
theorem fix_all (qx : dx < x) (q0 : d < dx ∧ AllLt dx rest) (q1 : x < l ∧ dx < l ∧ d < l ∧ AllLt l rest) (q2 : l < nl ∧ x < nl ∧ dx < nl ∧ d < nl ∧ AllLt nl rest) (hne : ∀ p ∈ rest, p.1 ≠ d) (_ : News h₀ L h ((nl, on) :: (l, ol) :: (x, ox) :: (dx, od) :: (d, o) :: rest)) :
    (∀ p ∈ (nl, on) :: (x, ox) :: (dx, od) :: rest, p.1 ≠ l) ∧ (∀ p ∈ (nl, on) :: (x, ox) :: (dx, od) :: rest, p.1 ≠ d) ∧ d ≠ l ∧
    (nl, on) ∈ (nl, on) :: (x, ox) :: (dx, od) :: rest ∧ (x, ox) ∈ (nl, on) :: (x, ox) :: (dx, od) :: rest ∧ (dx, od) ∈ (nl, on) :: (x, ox) :: (dx, od) :: rest ∧ ∀ p ∈ rest, p ∈ (nl, on) :: (x, ox) :: (dx, od) :: rest := by
  refine ⟨fun p hp => ?_, fun p hp => ?_, Nat.ne_of_lt q1.2.2.1, .head _, .tail _ (.head _), .tail _ (.tail _ (.head _)), fun _ h => .tail _ (.tail _ (.tail _ h))⟩
  · rcases List.mem_cons.mp hp with rfl | hp
    · exact (Nat.ne_of_lt q2.1).symm
    · rcases List.mem_cons.mp hp with rfl | hp
      · exact Nat.ne_of_lt q1.1
      · rcases List.mem_cons.mp hp with rfl | hp
        · exact Nat.ne_of_lt q1.2.1
        · exact Nat.ne_of_lt (ktn_ltOf q1.2.2.2 p hp)
  · rcases List.mem_cons.mp hp with rfl | hp
    · exact (Nat.ne_of_lt q2.2.2.2.1).symm
    · rcases List.mem_cons.mp hp with rfl | hp
      · exact (Nat.ne_of_lt (Nat.lt_trans q0.1 qx)).symm
      · rcases List.mem_cons.mp hp with rfl | hp
        · exact (Nat.ne_of_lt q0.1).symm
        · exact hne p hp
theorem start_all (N : News h₀ L h ((nl, on) :: (l, ol) :: (x, ox) :: (dx, od) :: (d, o) :: rest)) : News h₀ L h ((d, o) :: (l, ol) :: (nl, on) :: (x, ox) :: (dx, od) :: rest) := fun p hp => N p (by
  simp only [List.mem_cons] at hp ⊢
  rcases hp with h | h | h | h | h | h
  · exact .inr (.inr (.inr (.inr (.inl h))))
  · exact .inr (.inl h)
  · exact .inl h
  · exact .inr (.inr (.inl h))
  · exact .inr (.inr (.inr (.inl h)))
  · exact .inr (.inr (.inr (.inr (.inr h)))))
theorem rest_ne2 {l d I : Addr} {ol : Array Value} {k : Nat} {od : Obj} {fixed more own : List (Addr × Obj)} {h₀ h : Heap} {L : Addr} (N : News h₀ L h ((l, W.listOf ol k) :: (d, od) :: (more ++ fixed) ++ own)) (hod : od.cls = .type "dict") (hm : ∀ p ∈ more, p.2.cls = .type "tuple")
    (fl : ∀ p ∈ fixed, p.1 ≠ l) (fd : ∀ p ∈ fixed, p.1 ≠ d) (ho : ∀ p ∈ own, p.1 = I) (hI : ∀ p ∈ (l, W.listOf ol k) :: (d, od) :: (more ++ fixed), p.1 ≠ I) : (∀ p ∈ more ++ (fixed ++ own), p.1 ≠ l) ∧ ∀ p ∈ more ++ (fixed ++ own), p.1 ≠ d := by
  refine ⟨fun p hp => ?_, fun p hp => ?_⟩
  · rcases List.mem_append.mp hp with hp | hp
    · exact tups_ne N (.head _) p (mem_tups (List.mem_append_left _ (.tail _ (.tail _ (List.mem_append_left _ hp)))) (hm p hp))
    · rcases List.mem_append.mp hp with hp | hp
      · exact fl p hp
      · rw [ho p hp]
        exact (hI _ (.head _)).symm
  · rcases List.mem_append.mp hp with hp | hp
    · intro e
      have h1 := (N p (List.mem_append_left _ (.tail _ (.tail _ (List.mem_append_left _ hp))))).1
      have h2 := (N (d, od) (List.mem_append_left _ (.tail _ (.head _)))).1
      rw [e] at h1
      have h3 : p.2 = od := Option.some.inj (h1.symm.trans h2)
      have h4 := hm p hp
      rw [h3, hod] at h4
      exact absurd h4 (by decide)
    · rcases List.mem_append.mp hp with hp | hp
      · exact fd p hp
      · rw [ho p hp]
        exact (hI _ (.tail _ (.head _))).symm
theorem pow_room : 10 ^ 4400 + 10 ≤ 10 ^ 4500 := by
  have h1 : 10 ^ 4400 + 10 ^ 1 ≤ 10 ^ 4401 := by
    have := Nat.pow_le_pow_right (n := 10) (by decide) (show 1 ≤ 4400 by decide)
    have e : 10 ^ 4401 = 10 ^ 4400 * 10 := Nat.pow_succ 10 4400
    omega
  exact Nat.le_trans (by simpa using h1) (Nat.pow_le_pow_right (by decide) (by decide))
theorem note_pick {D D1 D2 D3 : Addr} {t1 t2 t3 t4 t5 t6 t7 : Tok} {k0 k1 k2 k3 : Nat} {here lap way : Int} {rest : List (Addr × Obj)} {h₀ h : Heap} {L : Addr}
    (_ : News h₀ L h ((D, tup [.int (here + lap) t5, .int (0 - here - 1) t6, .ref D3, .ref D1, .int lap t7] k0) :: (D1, tup [.ref D2, .str (Str.ofString "word") t3, .none] k1) :: (D2, tup [.int (0 - lap) t4] k2) :: (D3, tup [.int here t1, .int lap t2] k3) :: rest))
    (hw0 : 0 ≤ way) (hw : way < 5) (hh0 : 0 ≤ here) (hh : here.natAbs < 10 ^ 4400) (hl : 0 ≤ lap) (hl3 : lap ≤ 3) :
    ∃ nv nt, [.int (here + lap) t5, .int (0 - here - 1) t6, .ref D3, .ref D1, .int lap t7][way.toNat]? = some nv ∧
      NoteAt ((D, tup [.int (here + lap) t5, .int (0 - here - 1) t6, .ref D3, .ref D1, .int lap t7] k0) :: (D1, tup [.ref D2, .str (Str.ofString "word") t3, .none] k1) :: (D2, tup [.int (0 - lap) t4] k2) :: (D3, tup [.int here t1, .int lap t2] k3) :: rest) nv nt ∧ nt.small := by
  have hp := pow_room
  unfold Note.small
  generalize 10 ^ 4500 = M at hp ⊢
  generalize 10 ^ 4400 = m at hp hh
  have hc : way = 0 ∨ way = 1 ∨ way = 2 ∨ way = 3 ∨ way = 4 := by omega
  rcases hc with rfl | rfl | rfl | rfl | rfl
  · exact ⟨_, .num (here + lap), rfl, ⟨_, rfl⟩, by show (here + lap).natAbs < M; omega⟩
  · exact ⟨_, .num (0 - here - 1), rfl, ⟨_, rfl⟩, by show (0 - here - 1).natAbs < M; omega⟩
  · exact ⟨_, .pair here lap, rfl, ⟨D3, t1, t2, k3, rfl, .tail _ (.tail _ (.tail _ (.head _)))⟩, by show here.natAbs < M; omega, by show lap.natAbs < M; omega⟩
  · exact ⟨_, .deep (0 - lap), rfl, ⟨D1, D2, t4, t3, k1, k2, rfl, .tail _ (.head _), .tail _ (.tail _ (.head _))⟩, by show (0 - lap).natAbs < M; omega⟩
  · exact ⟨_, .num lap, rfl, ⟨_, rfl⟩, by show lap.natAbs < M; omega⟩
theorem mod_small {v : Int} (h0 : 0 ≤ v) (hv : v.natAbs < 10 ^ 4400) : 0 ≤ v.fmod (10 ^ Int.toNat 300) ∧ (v.fmod (10 ^ Int.toNat 300)).natAbs < 10 ^ 4400 := by
  rw [Int.fmod_eq_emod_of_nonneg v (show (0 : Int) ≤ 10 ^ Int.toNat 300 from Int.le_of_lt (Int.pow_pos (by decide)))]
  have h1 := Int.emod_nonneg v (show (10 : Int) ^ Int.toNat 300 ≠ 0 from Int.ne_of_gt (Int.pow_pos (by decide)))
  have h2 := Int.emod_def v (10 ^ Int.toNat 300)
  have hm : (0 : Int) ≤ 10 ^ Int.toNat 300 := Int.le_of_lt (Int.pow_pos (by decide))
  have h3 := Int.mul_nonneg hm (Int.ediv_nonneg h0 hm)
  refine ⟨h1, ?_⟩
  generalize v % 10 ^ Int.toNat 300 = q at h1 h2
  generalize 10 ^ Int.toNat 300 * (v / 10 ^ Int.toNat 300) = r at h2 h3
  generalize 10 ^ 4400 = m at hv
  omega
theorem item_pick {prog : Program} {w : World} {A : Around} {E : Value → Shared → Prop} {s : Shared} {value slice : Expr} {t : Addr} {l : List Value} {k : Int} {u : Tok} {x : Value} {Q : Value → Shared → Prop} (ht : IsTup s.heap t l.toArray)
    (h0 : 0 ≤ k) (h5 : k < 5) (hl : l.length = 5) (hx : l[k.toNat]? = some x) (h : Q x s)
    (hs : subscripted slice false (.ref t) (.int k u) = operate [.ref t, .int k u] (getItem (.ref t) (.int k u)) := by with_unfolding_all rfl) :
    wpAny (model prog w) A (subscriptTail value slice (.ref t) (.int k u)) Q E s :=
  item_tupleT ht (by omega) (by omega) (seqIndex_of h0 (by omega)) hx h hs
theorem add_all {a1 a2 a3 a4 : Addr × Obj} {P C d l : Addr} {o ol : Obj} {kp kc : Nat} {c : Int} {tc : Tok} {nv : Value} {nt : Note} {rest : List (Addr × Obj)} {h₀ h : Heap} {L : Addr}
    (N : News h₀ L h ((P, tup [] kp) :: (C, tup [.int c tc] kc) :: a1 :: a2 :: a3 :: a4 :: (d, o) :: (l, ol) :: rest)) (hn : NoteAt (a1 :: a2 :: a3 :: a4 :: (d, o) :: (l, ol) :: rest) nv nt) :
    ∃ all, News h₀ L h all ∧ (C, tup [.int c tc] kc) ∈ all ∧ (P, tup [] kp) ∈ all ∧ (d, o) ∈ all ∧ (l, ol) ∈ all ∧ (∀ p ∈ rest, p ∈ all) ∧ NoteAt all nv nt := by
  refine ⟨_, N, .tail _ (.head _), .head _, ?_, ?_, fun p hp => ?_, hn.mono fun p hp => .tail _ (.tail _ hp)⟩
  · exact .tail _ (.tail _ (.tail _ (.tail _ (.tail _ (.tail _ (.head _))))))
  · exact .tail _ (.tail _ (.tail _ (.tail _ (.tail _ (.tail _ (.tail _ (.head _)))))))
  · exact .tail _ (.tail _ (.tail _ (.tail _ (.tail _ (.tail _ (.tail _ (.tail _ hp)))))))
theorem pack {T C P : Addr} {t tc : Tok} {kc kp : Nat} {nv : Value} {nt : Note} {c : Int} {R X : List (Addr × Obj)} {h₀ h : Heap} {L : Addr} (N : News h₀ L h ((T, tup [.str (Str.ofString "input") t, .ref C, .ref P, nv] 0) :: R))
    (hC : (C, tup [.int c tc] kc) ∈ X) (hP : (P, tup [] kp) ∈ X) (hn : NoteAt X nv nt) : ∃ oT, oT.cls = .type "tuple" ∧ News h₀ L h ((T, oT) :: R) ∧ StepAt ((T, oT) :: X) c (.ref T) nt :=
  ⟨_, rfl, N, T, C, P, nv, t, tc, kc, kp, rfl, .head _, .tail _ hC, .tail _ hP, hn.mono fun _ hp => .tail _ hp⟩
theorem join_pos {r : RowP} {rs : List RowP} : 0 < (joinL [10] (rowsP 0 (r :: rs))).length := by
  have h : 0 < (rowP 0 r).length := by
    unfold rowP partA stepW
    simp [joinL]
  show 0 < (joinL [10] (rowP 0 r :: rowsP 1 rs)).length
  cases rowsP 1 rs with
  | nil => exact h
  | cons a b =>
    show 0 < (rowP 0 r ++ [10] ++ joinL [10] (a :: b)).length
    simp only [List.length_append]
    omega
theorem text_full {y : Str} {nts : List Note} (hy : y.cps.toList = joinL [10] (rowsP 0 (rsOf 0 nts))) (h : nts ≠ []) : (y != Str.ofString "") = true := by
  refine ne_empty ?_
  rw [len_eq, hy]
  cases nts with
  | nil => exact absurd rfl h
  | cons a b => exact join_pos
theorem back_all {d l : Addr} {o ol : Obj} {more m F : List (Addr × Obj)} {h₀ h : Heap} {L : Addr} (N : News h₀ L h (more ++ (l, ol) :: (d, o) :: (m ++ F))) :
    ∃ all, News h₀ L h all ∧ all = more ++ (l, ol) :: (d, o) :: (m ++ F) ∧ (l, ol) ∈ all ∧ (d, o) ∈ all ∧ (∀ p ∈ m, p ∈ all) ∧ ∀ p ∈ F, p ∈ all :=
  ⟨_, N, rfl, List.mem_append_right _ (.head _), List.mem_append_right _ (.tail _ (.head _)), fun _ hp => List.mem_append_right _ (.tail _ (.tail _ (List.mem_append_left _ hp))), fun _ hp => List.mem_append_right _ (.tail _ (.tail _ (List.mem_append_right _ hp)))⟩
theorem steps_up {a b : Addr × Obj} {m F : List (Addr × Obj)} {vs : List Value} {nts : List Note} {h₀ h : Heap} {L : Addr} (_ : News h₀ L h (a :: b :: (m ++ F))) (H : StepsAt m vs nts) : StepsAt (a :: b :: (m ++ F)) vs nts :=
  H.mono fun _ hp => .tail _ (.tail _ (List.mem_append_left _ hp))
theorem barrel_cls {w : World} {o : Obj} {c : Addr} {k : Int} (h : Barrel w o c k) : o.cls = .type "dict" := by
  obtain ⟨_, _, _, es, ep, h, _⟩ := h
  exact h.1
theorem news_flip {a b : Addr × Obj} (N : News h₀ L h (a :: b :: rest)) : News h₀ L h (b :: a :: rest) := fun p hp => N p (by
  simp only [List.mem_cons] at hp ⊢
  rcases hp with h | h | h
  · exact .inr (.inl h)
  · exact .inl h
  · exact .inr (.inr h))
end
local macro_rules | `(tactic| walk_at "pyIter ref") => `(tactic| refine stop ?_)
set_option maxRecDepth 100000 in
set_option maxHeartbeats 8000000 in
set_option pp.deepTerms false in
set_option pp.deepTerms.threshold 8 in
theorem proof_right_does {w : World} {mean : ExcName → Option Value} {mg mb : Str → Option Value} {d c : Addr} {o : Obj} {ys : List Value} {ns : List Int} {k v : Int} {rest : List (Addr × Obj)} {u : Tok}
    (hc : (c, LCg.lst ys) ∈ rest) (hi : IntsAre ys ns) (hlen : ns.length ≤ 30) (hne : ∀ p ∈ rest, p.1 ≠ d) (hsm : (d == sysModules) = false) (hB : Barrel w o c k) (k0 : 0 ≤ k) (k1 : k ≤ 50) (hv0 : 0 ≤ v) (hv1 : v.natAbs < 10 ^ 4400) :
    Does w mean mg mb 312 [.ref d, .int v u] 44 ((d, o) :: rest) (fun r news' => r = .bool true ∧ ∃ o' k', news' = (d, o') :: rest ∧ Barrel w o' c k' ∧ k ≤ k' ∧ k' ≤ k + 7) := by
  k_with_none
  k_with "call ref" => (k_here; (with_reducible show wpAny _ _ (call (Value.ref 227) _) _ _ _); k_dflt (refine' call_cls ?k1 ?k2 ?k3 ?k4 ?k5 ?k6 ?_; (case k1 => k_asm); (case k2 => k_asm); (case k3 => k_asm); (case k4 => k_is); (case k5 => k_is); (case k6 => k_is); k_whole; intro x'Z d'Z h'Z F'Z N'Z l1Z l2Z; (try k_lt l1Z); (try k_lt2 l2Z); (try k_sweep); refine' code_def ?k1 ?k2 ?k3 ?k4 ?k5 ?kA ?kF ?kK ?k6 ?k7 ?k8 ?k9 ?kB ?_ ?c2 ?c3 ?c4 ?c5; (case kA => exact rfl); (case kF => exact rfl); (case kK => exact rfl); (case k1 => k_asm); (case k2 => k_asm); (case k3 => k_asm); (case k4 => k_asm); (case k5 => k_asm); (case k6 => k_is); (case k7 => k_is); (case k8 => ktr_room); (case k9 => exact BindsTo.of_eq rfl); (case c5 => decide); (case kB => exact locs rfl); (case c2 => exact rfl); (case c3 => exact rfl); (case c4 => exact rfl); k_whole; intro g'Z L'Z h'Z FG'Z F'Z N'Z B'Z X'Z T'Z; (try dsimp only); (try k_fold)))
  k_with "call type:range" => ((rename Fr _ _ _ _ => F'Z); (rename News _ _ _ _ => N'Z); first | (with_unfolding_all refine range1_rows F'Z N'Z ?_; intro _ _ _ _ _ _ _ _ _) | (with_unfolding_all refine range2_rows F'Z N'Z ?_; intro _ _ _ _ _ _ _ _ _))
  k_with "call ref" => ((with_reducible show wpAny _ _ (call (Value.ref 291) _) _ _ _); refine stop ?_)
  k_with "call ref" => ((with_reducible show wpAny _ _ (call (Value.ref 163) _) _ _ _); refine stop ?_)
  k_with "call ref" => ((with_reducible show wpAny _ _ (call (Value.ref 246) _) _ _ _); refine stop ?_)
  k_with "call ref" => ((with_reducible show wpAny _ _ (call (Value.ref 284) _) _ _ _); refine stop ?_)
  k_with "compareOp Eq ref ref" => refine stop ?_
  k_with "subscriptTail" => refine stop ?_
  k_with "LoopStepU" => refine stop ?_
  unfold Does
  k_fill
  intro dp un gd cn cs a ccd cl outer A₀ base h₀ L m s Q E B F X N T hk hdp hun hret
  refine wpAny_call ?_
  k_dflt ktr_enter
  k_steps
  unfold Stop
  k_here
  rename (_ < _ ∧ _ < _ ∧ _ < _ ∧ d < _ ∧ AllLt _ rest) => q2
  rename (_ < _ ∧ _ < _ ∧ d < _ ∧ AllLt _ rest) => q1
  rename (d < _ ∧ AllLt _ rest) => q0
  rename (@LT.lt Addr _ _ _) => qx
  rename News _ _ _ (_ :: _ :: _ :: _ :: (d, o) :: rest) => hN
  obtain ⟨fl, fd, hdl, mnl, mx, mdx, mrest⟩ := fix_all qx q0 q1 q2 hne hN
  have hS := start_all hN
  refine' does_use (tap_does (.tail _ (mrest _ hc)) hi hlen ?hn hsm hB k0 ?g1 ?g2 ?g3) ?k1 ?k2 ?k3 ?k4 ?k5 ?kK ?kd ?ku ?_
  case k4 => exact hS
  case k1 => k_asm
  case k2 => k_asm
  case k3 => k_asm
  case k5 => k_asm
  case kK => exact rfl
  case kd => ktr_room
  case ku => ktr_units
  case hn => exact fun p hp => (List.mem_cons.mp hp).elim (fun e => e ▸ hdl.symm) (fd p)
  case g1 => omega
  case g2 => omega
  case g3 => omega
  intro v9 news9 h9 tk9 F9 N9 hp9
  obtain ⟨laps, t9, o9, rfl, lo9, hi9, rfl, B9⟩ := hp9
  (try dsimp only)
  (try k_fold)
  k_steps
  unfold Stop
  rename IsRange _ _ _ _ _ _ _ _ => rgX
  rename Fr _ _ _ _ => lF'
  rename News _ _ _ _ => lN'
  have lN2 := news_flip lN'
  refine' range_grow (σ := ProofS) (n := (1 + laps).toNat) (fun g => (_, W.listOf g.vs.toArray g.cnt) :: (d, g.o) :: (g.more ++ _)) (fun g => []) [Str.ofString "lap", Str.ofString "way", Str.ofString "here", Str.ofString "note"]
    (fun i g => StepsAt g.more g.vs g.nts ∧ g.nts.length = i ∧ (∀ nt ∈ g.nts, nt.small) ∧ (∀ p ∈ g.more, p.2.cls = .type "tuple") ∧ Barrel w g.o c g.k ∧ k + 1 ≤ g.k ∧ g.k ≤ k + 1 + i)
    ⟨[], 0, o9, k + 1, [], []⟩ rfl rgX ?hs ?hn lF' lN2 ?hk ⟨StepsAt.nil, rfl, (fun p hp => nomatch hp), (fun p hp => nomatch hp), B9, Int.le_refl _, (by show k + 1 ≤ k + 1 + ((0 : Nat) : Int); omega)⟩ ?turn ?done
  case hk => exact fun p hp => nomatch hp
  case hs => exact small_one (by decide) (by decide) (by omega) (by omega)
  case hn =>
    unfold Builtin.Range.rangeSize
    simp
    omega
  case turn =>
    intro g i t u h tk own I it hi' hP hmem hcls hown hIne F' N'
    clear lF' lN' lN2 rgX
    obtain ⟨hg1, hg2, hg3, hg4, hg5, hg6, hg7⟩ := hP
    obtain ⟨hnl, hnd⟩ := rest_ne2 N' (barrel_cls hg5) hg4 fl fd hown hIne
    rw [List.cons_append, List.cons_append, List.append_assoc] at N'
    generalize hrest : g.more ++ (_ ++ own) = rest2 at N' hnl hnd
    have rfx : ∀ p ∈ _, p ∈ rest2 := fun p hp => hrest ▸ List.mem_append_right g.more (List.mem_append_left own hp)
    have row : ∀ p ∈ own, p ∈ rest2 := fun p hp => hrest ▸ List.mem_append_right g.more (List.mem_append_right _ hp)
    have rmo : ∀ p ∈ g.more, p ∈ rest2 := fun p hp => hrest ▸ List.mem_append_left _ hp
    have hx' := rfx _ mx
    have hdx' := rfx _ mdx
    clear hrest
    k_steps
    unfold Stop
    k_here
    refine' does_use (tap_does (.tail _ (rfx _ (mrest _ hc))) hi hlen ?hn hsm hg5 ?g0 ?g1 ?g2 ?g3) ?k1 ?k2 ?k3 ?k4 ?k5 ?kK ?kd ?ku ?_
    case k4 => exact news_flip (by k_asm)
    case k1 => k_asm
    case k2 => k_asm
    case k3 => k_asm
    case k5 => k_asm
    case kK => exact rfl
    case kd => ktr_room
    case ku => ktr_units
    case hn => exact fun p hp => (List.mem_cons.mp hp).elim (fun e => e ▸ hdl.symm) (hnd p)
    case g0 => omega
    case g1 => omega
    case g2 => omega
    case g3 => omega
    intro v8 news8 h8 tk8 F8 N8 hp8
    obtain ⟨way, t8, o8, rfl, lo8, hi8, rfl, B8⟩ := hp8
    (try dsimp only)
    (try k_fold)
    have hg100 : g.vs.length ≤ 100 := by rw [hg1.1]; omega
    k_steps
    all_goals (
      unfold Stop
      k_here
      rename News _ _ _ (_ :: _ :: _ :: _ :: (d, o8) :: _) => hN2
      obtain ⟨nv, nt, e1, e2, e3⟩ := note_pick hN2 lo8 hi8 (by first | exact hv0 | exact (mod_small hv0 hv1).1) (by first | exact hv1 | exact (mod_small hv0 hv1).2) (by omega) (by omega)
      refine item_pick (News.isTup hN2 (.head _)) lo8 hi8 rfl e1 ?_
      k_steps
      unfold Stop
      k_here
      rename News _ _ _ (_ :: _ :: _ :: _ :: _ :: _ :: (d, o8) :: _) => hN3
      obtain ⟨all, hA, hC, hP, hd8, hl8, hr8, hnt⟩ := add_all hN3 e2
      clear e1 e2
      refine' does_use (add_does (es := []) (rest := tupsOf all ++ (d, o8) :: rest2) (List.mem_append_right _ (.tail _ hx')) (List.mem_append_right _ (.tail _ hdx')) (List.mem_append_left _ (mem_tups hC rfl)) (List.mem_append_left _ (mem_tups hP rfl)) ?hc ?hn hg100) ?k1 ?k2 ?k3 ?k4 ?k5 ?kK ?kd ?ku ?_
      case k1 => k_asm
      case k2 => k_asm
      case k3 => k_asm
      case k4 =>
        refine kst_newsOf hA fun p hp => ?_
        rcases List.mem_cons.mp hp with rfl | hp
        · exact hl8
        · rcases List.mem_append.mp hp with hp | hp
          · exact tups_sub hp
          · rcases List.mem_cons.mp hp with rfl | hp
            · exact hd8
            · exact hr8 p hp
      case k5 => k_asm
      case kK => exact rfl
      case kd => ktr_room
      case ku => ktr_units
      case hc => omega
      case hn =>
        intro p hp
        rcases List.mem_append.mp hp with hp | hp
        · exact tups_ne hA hl8 p hp
        · rcases List.mem_cons.mp hp with rfl | hp
          · exact hdl
          · exact hnl p hp
      intro v7 news7 h7 tk7 F7 N7 hp7
      obtain ⟨T7, t7, rfl, rfl, hT1, hT2⟩ := hp7
      (try dsimp only)
      (try k_fold)
      k_steps
      unfold Stop
      rename News _ _ h7 _ => hZ
      have ei : 0 + (i : Int) * 1 + 1 = (i : Int) + 1 := by omega
      rw [ei] at hC
      obtain ⟨oT, hoT, hZ2, hst⟩ := pack hZ (mem_tups hC rfl) (mem_tups hP rfl) hnt.tups
      refine grow_end ⟨g.vs ++ [Value.ref T7], g.cnt + 1, o8, g.k + 1, (T7, oT) :: tupsOf all, g.nts ++ [nt]⟩ (by assumption) hZ2 ?en ?eo ?ea ?ek ?es ?ep
      case ek => exact fun p hp => nomatch hp
      case en =>
        intro p hp
        rcases List.mem_cons.mp hp with rfl | hp
        · exact .tail _ (.head _)
        · rcases List.mem_cons.mp hp with rfl | hp
          · exact .tail _ (.tail _ (List.mem_append_right _ (.head _)))
          · rcases List.mem_append.mp hp with hp | hp
            · rcases List.mem_cons.mp hp with rfl | hp
              · exact .head _
              · exact .tail _ (.tail _ (List.mem_append_left _ hp))
            · exact .tail _ (.tail _ (List.mem_append_right _ (.tail _ (rfx p hp))))
      case eo => exact fun p hp => .tail _ (.tail _ (List.mem_append_right _ (.tail _ (row p hp))))
      case ea =>
        intro p hp
        rcases List.mem_cons.mp hp with rfl | hp
        · exact hIne (_, W.listOf g.vs.toArray g.cnt) (.head _)
        · rcases List.mem_cons.mp hp with rfl | hp
          · exact hIne (d, g.o) (.tail _ (.head _))
          · rcases List.mem_append.mp hp with hp | hp
            · rcases List.mem_cons.mp hp with rfl | hp
              · exact (Nat.ne_of_lt (hT2 _ (List.mem_append_right _ (.tail _ (row _ hmem))))).symm
              · exact tups_neI hA (hr8 _ (row _ hmem)) hcls p hp
            · exact hIne _ (.tail _ (.tail _ (List.mem_append_right _ hp)))
      case es =>
        intro z h1 h2 h3
        simp only [List.contains_cons, List.contains_nil, Bool.or_false, Bool.or_eq_false_iff, beq_eq_false_iff_ne, ne_eq] at h3
        simp [kstB, h1, h3]
      case ep =>
        refine ⟨?_, ?_, ?_, ?_, B8, ?_, ?_⟩
        · exact StepsAt.snoc (hg1.mono fun p hp => .tail _ (mem_tups (hr8 _ (rmo p hp)) (hg4 p hp))) hg2 hst
        · show (g.nts ++ [nt]).length = i + 1
          rw [List.length_append, hg2]; rfl
        · intro x hx
          rcases List.mem_append.mp hx with hx | hx
          · exact hg3 x hx
          · rw [List.mem_singleton.mp hx]; exact e3
        · intro p hp
          rcases List.mem_cons.mp hp with rfl | hp
          · exact hoT
          · exact tups_cls hp
        · show k + 1 ≤ g.k + 1
          omega
        · show g.k + 1 ≤ k + 1 + ((i + 1 : Nat) : Int)
          omega)
  case done =>
    intro g u h tk hP F' N'
    clear lF' lN' lN2 rgX
    obtain ⟨hg1, hg2, hg3, hg4, hg5, hg6, hg7⟩ := hP
    have hst := steps_up N' hg1
    k_steps
    unfold Stop
    k_here
    have hn3 : g.nts.length ≤ 3 := by omega
    have hn0 : g.nts ≠ [] := by
      intro e
      rw [e] at hg2
      simp at hg2
      omega
    have hvs1 : g.vs.length ≤ 100 := by rw [hg1.1]; omega
    refine' does_use (proof_text_does (vs := g.vs) (nts := g.nts) (.tail _ (.tail _ (List.mem_append_right _ mx))) (.tail _ (.tail _ (List.mem_append_right _ mdx))) (.head _) (.tail _ (.tail _ (List.mem_append_right _ mnl))) hst hn3 hvs1 hg3) ?k1 ?k2 ?k3 ?k4 ?k5 ?kK ?kd ?ku ?_
    case k1 => k_asm
    case k2 => k_asm
    case k3 => k_asm
    case k4 => k_asm
    case k5 => k_asm
    case kK => exact rfl
    case kd => ktr_room
    case ku => ktr_units
    intro v6 news6 h6 tk6 F6 N6 hp6
    obtain ⟨⟨y6, ty6, rfl, hy6, hyl6⟩, rfl⟩ := hp6
    rw [rowsL_rsOf] at hy6
    (try dsimp only)
    (try k_fold)
    k_steps
    unfold Stop
    k_here
    refine' does_use (read_proof_does (rows_of (rs := rsOf 0 g.nts) ?h1 ?h2 (rsOf_ok hn3 hg3)) hy6 (by omega) (text_full hy6 hn0)) ?k1 ?k2 ?k3 ?k4 ?k5 ?kK ?kd ?ku ?_
    case h1 =>
      intro e
      have := congrArg List.length e
      rw [rsOf_length] at this
      exact hn0 (List.length_eq_zero_iff.mp this)
    case h2 => rw [rsOf_length]; exact hn3
    case k1 => k_asm
    case k2 => k_asm
    case k3 => k_asm
    case k4 => k_asm
    case k5 => k_asm
    case kK => exact rfl
    case kd => ktr_room
    case ku => ktr_units
    intro v5 news5 h5 tk5 F5 N5 hp5
    obtain ⟨x5, dx5, l5, nl5, ne5, cnt5, vs5, em5, te5, u1, u2, u3, more5, rfl, rfl, hx5, hdx5, hl5, hr5⟩ := hp5
    obtain ⟨all, hA, e5, hla, hda, hma, hFa⟩ := back_all N5
    rw [← e5] at hx5 hdx5 hl5 hr5
    have hxa := hFa _ mx
    have hdxa := hFa _ mdx
    clear e5 N5
    (try dsimp only)
    (try k_fold)
    k_steps
    unfold Stop
    rename News _ _ _ all => hZ
    refine eq_rows hZ hl5 (rows_dat hr5) hla (rows_dat (rows_steps (hg1.mono hma))) (steps_ok _) (by ktr_units) ?_
    k_steps
    rename News h₀ L _ all => hZ
    refine hret _ ((d, g.o) :: rest) _ _ (by k_asm) (kst_newsOf hZ fun p hp => (List.mem_cons.mp hp).elim (fun e => e ▸ hda) fun hp => hFa _ (mrest _ hp)) ⟨rfl, g.o, g.k, rfl, hg5, by omega, by omega⟩
end Mine
end
section
open PySem PySem.W PyProof.Rows PyProof PySem.Calls
namespace Mine
open PySem.NumText (AllDigits digitsVal)
theorem take_len {ws : List Int} : (List.map (fun k' => k') (List.take 30 ws)).length ≤ 30 := by
  rw [List.length_map, List.length_take]
  omega
theorem law_start {w : World} {d c D : Addr} {o oD : Obj} {ys : List Value} {t1 t2 t3 : Tok} {h₀ h : Heap} {L : Addr} (N : News h₀ L h [(c, LCg.lst ys), (D, oD), (d, o)]) (hne : D ≠ c ∧ d ≠ c) (hlt : d < D)
    (hB : Obj.IsDictOf (PySem.strKind PySem.Challenge.rw_rg0208_01.row.prog w) o (strPairs [(Value.str (Str.ofString "cells") t1, Value.ref c), (Value.str (Str.ofString "at") t2, Value.int 0 t3)])) :
    News h₀ L h ((d, o) :: [(c, LCg.lst ys), (D, oD)]) ∧ (∀ p ∈ [(c, LCg.lst ys), (D, oD)], p.1 ≠ d) ∧ Barrel w o c 0 := by
  refine ⟨fun p hp => N p ?_, fun p hp => ?_, ⟨_, _, _, hB⟩⟩
  · simp only [List.mem_cons, List.not_mem_nil, or_false] at hp ⊢
    rcases hp with h | h | h
    · exact .inr (.inr h)
    · exact .inl h
    · exact .inr (.inl h)
  · rcases List.mem_cons.mp hp with rfl | hp
    · exact hne.2.symm
    · rw [List.mem_singleton.mp hp]
      exact (Nat.ne_of_lt hlt).symm
theorem news_pull {a b c : Addr × Obj} {rest : List (Addr × Obj)} {h₀ h : Heap} {L : Addr} (N : News h₀ L h (a :: b :: c :: rest)) : News h₀ L h (c :: b :: rest) := fun p hp => N p (by
  simp only [List.mem_cons] at hp ⊢
  rcases hp with h | h | h
  · exact .inr (.inr (.inl h))
  · exact .inr (.inl h)
  · exact .inr (.inr (.inr h)))
theorem mod_full {n : Nat} : 0 ≤ (n : Int).fmod (10 ^ Int.toNat 4400) ∧ ((n : Int).fmod (10 ^ Int.toNat 4400)).natAbs < 10 ^ 4400 := by
  have hp : (0 : Int) < 10 ^ Int.toNat 4400 := Int.pow_pos (by decide)
  have e : ((10 : Int) ^ Int.toNat 4400) = ((10 ^ 4400 : Nat) : Int) := by
    rw [show Int.toNat 4400 = 4400 from rfl, Int.natCast_pow]
    rfl
  rw [Int.fmod_eq_emod_of_nonneg _ (Int.le_of_lt hp)]
  rw [e] at hp ⊢
  have h1 := Int.emod_nonneg (n : Int) (Int.ne_of_gt hp)
  have h2 := Int.emod_lt_of_pos (n : Int) hp
  refine ⟨h1, ?_⟩
  generalize (n : Int) % ((10 ^ 4400 : Nat) : Int) = q at h1 h2
  generalize 10 ^ 4400 = M at h2 ⊢
  omega
theorem glue {a b : Str} : ((digitsVal (a ++ b).cps.toList : Nat) : Int) = ((digitsVal a.cps.toList : Nat) : Int) * 10 ^ Int.toNat (b.length : Int) + ((digitsVal b.cps.toList : Nat) : Int) := by
  rw [cps_app, digitsVal_app, Int.toNat_natCast, len_eq]
  push_cast
  rfl
theorem row_ne {d D : Addr} {o oD : Obj} {rest : List (Addr × Obj)} {h₀ h : Heap} {L : Addr} (_ : News h₀ L h ((D, oD) :: (d, o) :: rest)) (hlt : ∀ p ∈ (d, o) :: rest, p.1 < D) (h : ∀ p ∈ rest, p.1 ≠ d) : ∀ p ∈ (D, oD) :: rest, p.1 ≠ d := fun p hp =>
  (List.mem_cons.mp hp).elim (fun e => e ▸ (Nat.ne_of_lt (hlt _ (.head _))).symm) (h p)
set_option maxRecDepth 100000 in
set_option maxHeartbeats 8000000 in
set_option pp.deepTerms false in
set_option pp.deepTerms.threshold 8 in
theorem law_holds : PySem.Challenge.rw_rg0208_01.Holds := by
  k_with_none
  k_with "call ref" => ((with_reducible show wpAny _ _ (call (Value.ref 298) _) _ _ _); refine stop ?_)
  k_with "call ref" => (k_here; (with_reducible show wpAny _ _ (call (Value.ref 305) [Value.str _ _, Value.int _ _]) _ _ _); k_dflt (refine' does_use (number_right_does ?hd ?hz ?hx) ?k1 ?k2 ?k3 ?k4 ?k5 ?kK ?kd ?ku ?_; (case k1 => k_asm); (case k2 => k_asm); (case k3 => k_asm); (case k4 => k_asm); (case k5 => k_asm); (case kK => exact rfl); (case hd => assumption); (case hz => assumption); (case hx => assumption); (case kd => ktr_room); (case ku => ktr_units)); intro v9Z news9Z h9Z tk9Z F9Z N9Z hp9Z; (obtain ⟨e9Z, en9Z⟩ := hp9Z; subst e9Z en9Z); (try dsimp only); (try k_fold))
  k_with "call ref" => (k_here; (with_reducible show wpAny _ _ (call (Value.ref 92) [Value.str _ _]) _ _ _); k_dflt (refine' does_use (number_in_does ?hd ?hx) ?k1 ?k2 ?k3 ?k4 ?k5 ?kK ?kd ?ku ?_; (case k1 => k_asm); (case k2 => k_asm); (case k3 => k_asm); (case k4 => k_asm); (case k5 => k_asm); (case kK => exact rfl); (case hd => assumption); (case hx => assumption); (case kd => ktr_room); (case ku => ktr_units)); intro v9Z news9Z h9Z tk9Z F9Z N9Z hp9Z; (obtain ⟨⟨t9Z, e9Z⟩, en9Z⟩ := hp9Z; subst e9Z en9Z); (try dsimp only); (try k_fold))
  k_with "call ref" => ((with_reducible show wpAny _ _ (call (Value.ref 312) _) _ _ _); refine stop ?_)
  k_with "call ref" => ((with_reducible show wpAny _ _ (call (Value.ref 291) _) _ _ _); refine stop ?_)
  k_with "call ref" => ((with_reducible show wpAny _ _ (call (Value.ref 319) _) _ _ _); refine stop ?_)
  k_with "binaryOp Mult int int" => ((with_reducible rename (∀ n : Nat, n ≤ 10000 → IntMulOk _ (10 ^ n)) => hmulZ); (with_reducible refine mul_int ?_ ?hm); (case hm => exact hmulZ _ (by omega)))
  w_on
  o_law
  rename_i said
  refine holds_open (q := vw) (loose := [Str.ofString "ROUND"]) (Xt := fun s => xlAt vw lvK s && recOk (RowW.records PySem.Challenge.rw_rg0208_01.row.toRowW) s) (XP := XL vw lvK) (Yf := Hook.obs (kHook Kw asK asK_eq)) (Ya := Hook.val (kHook Kw asK asK_eq)) (YP := Hook.says (kHook Kw asK asK_eq)) (N := 4380) left (Hook.of (kHook Kw asK asK_eq)) (Hook.keeps (kHook Kw asK asK_eq)) (fun s e => xl_of s (Bool.and_eq_true_iff.mp e).1) XL.keeps (by rfl) (by rfl) (by rfl) (fun s e => recFacts_of (Bool.and_eq_true_iff.mp e).2) (by rfl) (by assumption) (by decide +kernel) ⟨rfl, rfl, rfl, rfl, rfl, by decide +kernel⟩ ?hw ?hc
  case hw => w_witness2
  case hc =>
    clear said
    w_strict (k_go0; (all_goals try k_fold); k_steps)
    all_goals (
      unfold Stop
      k_here
      rename Obj.IsDictOf _ _ (strPairs _) => hBd
      rename (IntsAre _ (List.map _ _)) => hi
      rename (_ ≠ _ ∧ _ ≠ _) => hne2
      rename ((_ == sysModules) = false) => hsm
      rename (@LT.lt Addr _ _ _) => hlt
      rename News _ _ _ [_, _, (_, _)] => hN
      obtain ⟨hS, hnd, hB⟩ := law_start hN hne2 hlt hBd
      refine' does_use (law_row_does (.head _) hi take_len hnd hsm hB (Int.le_refl _) (by decide)) ?k1 ?k2 ?k3 ?k4 ?k5 ?kK ?kd ?ku ?_
      case k1 => k_asm
      case k2 => k_asm
      case k3 => k_asm
      case k4 => exact hS
      case k5 => k_asm
      case kK => exact rfl
      case kd => ktr_room
      case ku => ktr_units
      intro v9 news9 h9 tk9 F9 N9 hp9
      obtain ⟨D9, x1, tx1, val1, tv1, o9, k9, n9, rfl, rfl, hlt9, hd1, hz1, hl1, rfl, B9, hk9, hk9'⟩ := hp9
      have hnd2 := row_ne N9 hlt9 hnd
      (try dsimp only)
      (try k_fold)
      k_steps
      unfold Stop
      k_here
      refine' does_use (law_row_does (.tail _ (.head _)) hi take_len hnd2 hsm B9 (by omega) (by omega)) ?k1 ?k2 ?k3 ?k4 ?k5 ?kK ?kd ?ku ?_
      case k1 => k_asm
      case k2 => k_asm
      case k3 => k_asm
      case k4 => exact news_flip (by k_asm)
      case k5 => k_asm
      case kK => exact rfl
      case kd => ktr_room
      case ku => ktr_units
      intro v8 news8 h8 tk8 F8 N8 hp8
      obtain ⟨D8, x2, tx2, val2, tv2, o8, k8, n8, rfl, rfl, hlt8, hd2, hz2, hl2, rfl, B8, hk8, hk8'⟩ := hp8
      have hnd3 := row_ne N8 hlt8 hnd2
      (try dsimp only)
      (try k_fold)
      have hd12 : AllDigits (x1 ++ x2).cps.toList := by
        rw [cps_app]
        exact AllDigits.app hd1 hd2
      have hx12 : (x1 ++ x2).length ≤ 10000 := by
        rw [Str.length_append]
        omega
      have hs1 : digitsVal x1.cps.toList < 10 ^ 4500 := Nat.lt_of_lt_of_le (digitsVal_lt hd1) (Nat.pow_le_pow_right (by decide) (by rw [← len_eq]; exact hl1))
      have hs2 : digitsVal x2.cps.toList < 10 ^ 4500 := Nat.lt_of_lt_of_le (digitsVal_lt hd2) (Nat.pow_le_pow_right (by decide) (by rw [← len_eq]; exact hl2))
      have hmul : ∀ n : Nat, n ≤ 10000 → IntMulOk ((digitsVal x1.cps.toList : Nat) : Int) (10 ^ n) := fun n hn => mulOk_of_lt (j := 4500) (k := 10001) (by rw [Int.natAbs_natCast]; exact hs1) (by decide) (Nat.lt_of_lt_of_le (natAbs_ten n) (Nat.pow_le_pow_right (by decide) (by omega))) (by decide)
      have hglue := glue (a := x1) (b := x2)
      k_steps
      unfold Stop
      k_here
      refine' does_use (proof_right_does (.tail _ (.tail _ (.head _))) hi take_len hnd3 hsm B8 (by omega) (by omega) mod_full.1 mod_full.2) ?k1 ?k2 ?k3 ?k4 ?k5 ?kK ?kd ?ku ?_
      case k1 => k_asm
      case k2 => k_asm
      case k3 => k_asm
      case k4 => exact news_pull (by k_asm)
      case k5 => k_asm
      case kK => exact rfl
      case kd => ktr_room
      case ku => ktr_units
      intro v7 news7 h7 tk7 F7 N7 hp7
      obtain ⟨rfl, o7, k7, rfl, B7, hk7, hk7'⟩ := hp7
      (try dsimp only)
      (try k_fold)
      k_steps
      unfold Stop
      k_here
      refine' does_use (tap_does (.tail _ (.tail _ (.head _))) hi take_len hnd3 hsm B7 (by omega) (by omega) (by decide) (by decide)) ?k1 ?k2 ?k3 ?k4 ?k5 ?kK ?kd ?ku ?_
      case k1 => k_asm
      case k2 => k_asm
      case k3 => k_asm
      case k4 => k_asm
      case k5 => k_asm
      case kK => exact rfl
      case kd => ktr_room
      case ku => ktr_units
      intro v6 news6 h6 tk6 F6 N6 hp6
      obtain ⟨r6, t6, o6, rfl, lo6, hi6, rfl, B6⟩ := hp6
      (try dsimp only)
      (try k_fold)
      k_steps
      unfold Stop
      k_here
      have hm1 : IntMulOk 1 ((digitsVal x2.cps.toList : Nat) : Int) := mulOk_of_lt (j := 1) (k := 4500) (by decide) (by decide) (by rw [Int.natAbs_natCast]; exact hs2) (by decide)
      have hm2 : IntMulOk (-1) ((digitsVal x2.cps.toList : Nat) : Int) := mulOk_of_lt (j := 1) (k := 4500) (by decide) (by decide) (by rw [Int.natAbs_natCast]; exact hs2) (by decide)
      have hr : r6 = 0 ∨ r6 = 1 := by omega
      rcases hr with rfl | rfl
      · rw [show (1 : Int) - 2 * 0 = 1 from rfl]
        refine' does_use (step_right_plus (.inl ⟨hd2, hz2, rfl⟩) hl2 hm1) ?k1 ?k2 ?k3 ?k4 ?k5 ?kK ?kd ?ku ?_
        case k1 => k_asm
        case k2 => k_asm
        case k3 => k_asm
        case k4 => k_asm
        case k5 => k_asm
        case kK => exact rfl
        case kd => ktr_room
        case ku => ktr_units
        intro v5 news5 h5 tk5 F5 N5 hp5
        subst hp5
        (try dsimp only)
        (try k_fold)
        k_steps
      · rw [show (1 : Int) - 2 * 1 = -1 from rfl]
        refine' does_use (step_right_minus (.inr ⟨x2.cps.toList, by rw [cps_app, minus_lit]; rfl, hd2, hz2, by omega⟩) hl2 hm2) ?k1 ?k2 ?k3 ?k4 ?k5 ?kK ?kd ?ku ?_
        case k1 => k_asm
        case k2 => k_asm
        case k3 => k_asm
        case k4 => k_asm
        case k5 => k_asm
        case kK => exact rfl
        case kd => ktr_room
        case ku => ktr_units
        intro v5 news5 h5 tk5 F5 N5 hp5
        subst hp5
        (try dsimp only)
        (try k_fold)
        k_steps)
end Mine
end
theorem PySem.Challenge.cw_rg0208_01_holds : PySem.Challenge.rw_rg0208_01.Holds := by
  exact Mine.law_holds
