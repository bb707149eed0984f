import PyProof.Rows.All
import Wide.All
import OpenK.AllK
import Wide.FinOn
import PySem.Challenge.RW_xm0588_01

open PySem PySem.W PyProof.Rows
set_option Elab.async false
set_option compiler.extract_closed false
set_option linter.unusedVariables false
set_option maxRecDepth 100000
namespace Mine
def partsOf : Stmt → Option (Arguments × List Stmt × Scope)
  | .FunctionDef _ p b _ _ _ sc _ _ _ => some (p, b, sc)
  | _ => none
def clsBody : Stmt → List Stmt
  | .ClassDef _ _ _ b _ _ _ _ _ _ _ => b
  | _ => []
noncomputable def atTop (i : Nat) : Option (Arguments × List Stmt × Scope) := (Challenge.pw_xm0588_01.main.body[i]?).bind partsOf
noncomputable def inCls (i j : Nat) : Option (Arguments × List Stmt × Scope) := (Challenge.pw_xm0588_01.main.body[i]?).bind fun c => ((clsBody c).filter fun s => (partsOf s).isSome)[j]?.bind partsOf
noncomputable abbrev F0 : Arguments × List Stmt × Scope := (⟨_, rfl⟩ : { f : Arguments × List Stmt × Scope // Mine.atTop 0 = some f }).1
noncomputable abbrev F1 : Arguments × List Stmt × Scope := (⟨_, rfl⟩ : { f : Arguments × List Stmt × Scope // Mine.atTop 2 = some f }).1
noncomputable abbrev F2 : Arguments × List Stmt × Scope := (⟨_, rfl⟩ : { f : Arguments × List Stmt × Scope // Mine.atTop 3 = some f }).1
noncomputable abbrev F3 : Arguments × List Stmt × Scope := (⟨_, rfl⟩ : { f : Arguments × List Stmt × Scope // Mine.atTop 4 = some f }).1
noncomputable abbrev F4 : Arguments × List Stmt × Scope := (⟨_, rfl⟩ : { f : Arguments × List Stmt × Scope // Mine.atTop 5 = some f }).1
noncomputable abbrev F5 : Arguments × List Stmt × Scope := (⟨_, rfl⟩ : { f : Arguments × List Stmt × Scope // Mine.atTop 6 = some f }).1
noncomputable abbrev F6 : Arguments × List Stmt × Scope := (⟨_, rfl⟩ : { f : Arguments × List Stmt × Scope // Mine.inCls 7 0 = some f }).1
noncomputable abbrev F7 : Arguments × List Stmt × Scope := (⟨_, rfl⟩ : { f : Arguments × List Stmt × Scope // Mine.inCls 7 1 = some f }).1
noncomputable abbrev F8 : Arguments × List Stmt × Scope := (⟨_, rfl⟩ : { f : Arguments × List Stmt × Scope // Mine.inCls 7 2 = some f }).1
noncomputable abbrev F9 : Arguments × List Stmt × Scope := (⟨_, rfl⟩ : { f : Arguments × List Stmt × Scope // Mine.inCls 7 3 = some f }).1
noncomputable abbrev F10 : Arguments × List Stmt × Scope := (⟨_, rfl⟩ : { f : Arguments × List Stmt × Scope // Mine.inCls 7 4 = some f }).1
noncomputable abbrev F11 : Arguments × List Stmt × Scope := (⟨_, rfl⟩ : { f : Arguments × List Stmt × Scope // Mine.inCls 7 5 = some f }).1
noncomputable abbrev F12 : Arguments × List Stmt × Scope := (⟨_, rfl⟩ : { f : Arguments × List Stmt × Scope // Mine.inCls 9 0 = some f }).1
noncomputable abbrev F13 : Arguments × List Stmt × Scope := (⟨_, rfl⟩ : { f : Arguments × List Stmt × Scope // Mine.inCls 9 1 = some f }).1
noncomputable abbrev F14 : Arguments × List Stmt × Scope := (⟨_, rfl⟩ : { f : Arguments × List Stmt × Scope // Mine.inCls 9 2 = some f }).1
noncomputable abbrev F15 : Arguments × List Stmt × Scope := (⟨_, rfl⟩ : { f : Arguments × List Stmt × Scope // Mine.inCls 9 3 = some f }).1
noncomputable abbrev F16 : Arguments × List Stmt × Scope := (⟨_, rfl⟩ : { f : Arguments × List Stmt × Scope // Mine.inCls 9 4 = some f }).1
noncomputable abbrev F17 : Arguments × List Stmt × Scope := (⟨_, rfl⟩ : { f : Arguments × List Stmt × Scope // Mine.inCls 9 5 = some f }).1
noncomputable abbrev F18 : Arguments × List Stmt × Scope := (⟨_, rfl⟩ : { f : Arguments × List Stmt × Scope // Mine.inCls 9 6 = some f }).1
noncomputable abbrev F19 : Arguments × List Stmt × Scope := (⟨_, rfl⟩ : { f : Arguments × List Stmt × Scope // Mine.atTop 11 = some f }).1
noncomputable abbrev F20 : Arguments × List Stmt × Scope := (⟨_, rfl⟩ : { f : Arguments × List Stmt × Scope // Mine.atTop 12 = some f }).1
noncomputable abbrev F21 : Arguments × List Stmt × Scope := (⟨_, rfl⟩ : { f : Arguments × List Stmt × Scope // Mine.atTop 13 = some f }).1
noncomputable abbrev F22 : Arguments × List Stmt × Scope := (⟨_, rfl⟩ : { f : Arguments × List Stmt × Scope // Mine.atTop 14 = some f }).1
noncomputable abbrev F23 : Arguments × List Stmt × Scope := (⟨_, rfl⟩ : { f : Arguments × List Stmt × Scope // Mine.atTop 15 = some f }).1
noncomputable abbrev F24 : Arguments × List Stmt × Scope := (⟨_, rfl⟩ : { f : Arguments × List Stmt × Scope // Mine.atTop 16 = some f }).1
noncomputable abbrev F25 : Arguments × List Stmt × Scope := (⟨_, rfl⟩ : { f : Arguments × List Stmt × Scope // Mine.atTop 17 = some f }).1
noncomputable abbrev F26 : Arguments × List Stmt × Scope := (⟨_, rfl⟩ : { f : Arguments × List Stmt × Scope // Mine.atTop 18 = some f }).1
noncomputable abbrev F27 : Arguments × List Stmt × Scope := (⟨_, rfl⟩ : { f : Arguments × List Stmt × Scope // Mine.atTop 19 = some f }).1
noncomputable abbrev F28 : Arguments × List Stmt × Scope := (⟨_, rfl⟩ : { f : Arguments × List Stmt × Scope // Mine.atTop 20 = some f }).1
noncomputable abbrev F29 : Arguments × List Stmt × Scope := (⟨_, rfl⟩ : { f : Arguments × List Stmt × Scope // Mine.atTop 21 = some f }).1
noncomputable abbrev F30 : Arguments × List Stmt × Scope := (⟨_, rfl⟩ : { f : Arguments × List Stmt × Scope // Mine.atTop 22 = some f }).1
noncomputable abbrev F31 : Arguments × List Stmt × Scope := (⟨_, rfl⟩ : { f : Arguments × List Stmt × Scope // Mine.atTop 23 = some f }).1
noncomputable abbrev F32 : Arguments × List Stmt × Scope := (⟨_, rfl⟩ : { f : Arguments × List Stmt × Scope // Mine.atTop 24 = some f }).1
noncomputable abbrev F33 : Arguments × List Stmt × Scope := (⟨_, rfl⟩ : { f : Arguments × List Stmt × Scope // Mine.atTop 25 = some f }).1
noncomputable abbrev F34 : Arguments × List Stmt × Scope := (⟨_, rfl⟩ : { f : Arguments × List Stmt × Scope // Mine.atTop 26 = some f }).1
noncomputable def view : Program := { Challenge.pw_xm0588_01 with main := { Challenge.pw_xm0588_01.main with body := Challenge.pw_xm0588_01.main.body.filter fun s => match s with | .FunctionDef .. => true | .ClassDef .. => true | _ => false } }
end Mine
noncomputable def Mine.heapT : Params → Frag := fun P => [
 (2, { cls := Value.none, data := Data.dict #[] }), 
 (3, { cls := Value.type "dict", data := Data.dict #[{ hash := PyData.keyHash P (Str.ofString "__name__"), key := Value.str (Str.ofString "__name__") 165, val := Value.str (Str.ofString "law_xm0588_01") 407 }, { hash := PyData.keyHash P (Str.ofString "__doc__"), key := Value.str (Str.ofString "__doc__") 166, val := Value.none }, { hash := PyData.keyHash P (Str.ofString "__package__"), key := Value.str (Str.ofString "__package__") 167, val := Value.none }, { hash := PyData.keyHash P (Str.ofString "__loader__"), key := Value.str (Str.ofString "__loader__") 168, val := Value.builtin "__main__.__loader__#opaque" }, { hash := PyData.keyHash P (Str.ofString "__spec__"), key := Value.str (Str.ofString "__spec__") 169, val := Value.none }, { hash := PyData.keyHash P (Str.ofString "__annotations__"), key := Value.str (Str.ofString "__annotations__") 170, val := Value.ref 6 }, { hash := PyData.keyHash P (Str.ofString "__builtins__"), key := Value.str (Str.ofString "__builtins__") 171, val := Value.ref 4 }, { hash := PyData.keyHash P (Str.ofString "__file__"), key := Value.str (Str.ofString "__file__") 173, val := Value.str (Str.ofString "/claim/cut.py") 172 }, { hash := PyData.keyHash P (Str.ofString "__cached__"), key := Value.str (Str.ofString "__cached__") 174, val := Value.none }, { hash := PyData.keyHash P (Str.ofString "_wall"), key := Value.str (Str.ofString "_wall") 193, val := Value.ref 21 }, { hash := PyData.keyHash P (Str.ofString "meets"), key := Value.str (Str.ofString "meets") 203, val := Value.ref 28 }, { hash := PyData.keyHash P (Str.ofString "may_meet"), key := Value.str (Str.ofString "may_meet") 213, val := Value.ref 35 }, { hash := PyData.keyHash P (Str.ofString "is_prefix"), key := Value.str (Str.ofString "is_prefix") 223, val := Value.ref 42 }, { hash := PyData.keyHash P (Str.ofString "killed_by"), key := Value.str (Str.ofString "killed_by") 229, val := Value.ref 47 }, { hash := PyData.keyHash P (Str.ofString "killed_at_end"), key := Value.str (Str.ofString "killed_at_end") 235, val := Value.ref 52 }, { hash := PyData.keyHash P (Str.ofString "LoanScopes"), key := Value.str (Str.ofString "LoanScopes") 318, val := Value.ref 100 }, { hash := PyData.keyHash P (Str.ofString "Body"), key := Value.str (Str.ofString "Body") 406, val := Value.ref 165 }, { hash := PyData.keyHash P (Str.ofString "_law_pool"), key := Value.str (Str.ofString "_law_pool") 417, val := Value.ref 176 }, { hash := PyData.keyHash P (Str.ofString "_law_take"), key := Value.str (Str.ofString "_law_take") 426, val := Value.ref 183 }, { hash := PyData.keyHash P (Str.ofString "_law_one"), key := Value.str (Str.ofString "_law_one") 434, val := Value.ref 190 }, { hash := PyData.keyHash P (Str.ofString "_law_after"), key := Value.str (Str.ofString "_law_after") 441, val := Value.ref 197 }, { hash := PyData.keyHash P (Str.ofString "_law_aside"), key := Value.str (Str.ofString "_law_aside") 449, val := Value.ref 204 }, { hash := PyData.keyHash P (Str.ofString "_law_steps_right"), key := Value.str (Str.ofString "_law_steps_right") 455, val := Value.ref 209 }, { hash := PyData.keyHash P (Str.ofString "_law_place"), key := Value.str (Str.ofString "_law_place") 463, val := Value.ref 216 }, { hash := PyData.keyHash P (Str.ofString "_law_statement"), key := Value.str (Str.ofString "_law_statement") 471, val := Value.ref 223 }, { hash := PyData.keyHash P (Str.ofString "_law_end"), key := Value.str (Str.ofString "_law_end") 482, val := Value.ref 230 }, { hash := PyData.keyHash P (Str.ofString "_law_is_ended"), key := Value.str (Str.ofString "_law_is_ended") 488, val := Value.ref 235 }, { hash := PyData.keyHash P (Str.ofString "_law_goes_on"), key := Value.str (Str.ofString "_law_goes_on") 500, val := Value.ref 242 }, { hash := PyData.keyHash P (Str.ofString "_law_next"), key := Value.str (Str.ofString "_law_next") 506, val := Value.ref 247 }, { hash := PyData.keyHash P (Str.ofString "_law_come_to"), key := Value.str (Str.ofString "_law_come_to") 516, val := Value.ref 254 }, { hash := PyData.keyHash P (Str.ofString "_law_followed"), key := Value.str (Str.ofString "_law_followed") 528, val := Value.ref 261 }, { hash := PyData.keyHash P (Str.ofString "_law_scopes_right"), key := Value.str (Str.ofString "_law_scopes_right") 534, val := Value.ref 266 }, { hash := PyData.keyHash P (Str.ofString "law"), key := Value.str (Str.ofString "law") 542, val := Value.ref 273 }] 33 }), 
 (15, { cls := Value.type "tuple", data := Data.seq #[] }), 
 (17, { cls := Value.type "tuple", data := Data.seq #[Value.str (Str.ofString "k") 190] }), 
 (18, { cls := Value.type "tuple", data := Data.seq #[] }), 
 (20, { cls := Value.type "code", data := Data.fields #[Value.str (Str.ofString "_wall") 187, Value.str (Str.ofString "_wall") 188, Value.str (Str.ofString "/claim/cut.py") 189, Value.int 1 0, Value.int 1 0, Value.int 0 0, Value.int 0 0, Value.int 3 0, Value.ref 15, Value.bool true, Value.int 181 0, Value.ref 16, Value.none, Value.ref 17, Value.ref 18, Value.ref 19, Value.int 191 0, Value.int 1 0, Value.str (Str.ofString "/claim/cut.py") 192] }), 
 (21, { cls := Value.type "function", data := Data.func { name := Str.ofString "_wall", qualname := Str.ofString "_wall", params := Mine.F0.1, body := FuncBody.stmts Mine.F0.2.1, scope := Mine.F0.2.2, globals := 3, closure := [], defaults := Value.none, kwdefaults := Value.none, pyModule := Value.str (Str.ofString "__main__") 164, code := Value.ref 20 } }), 
 (22, { cls := Value.type "tuple", data := Data.seq #[] }), 
 (24, { cls := Value.type "tuple", data := Data.seq #[Value.str (Str.ofString "one") 199, Value.str (Str.ofString "other") 200] }), 
 (25, { cls := Value.type "tuple", data := Data.seq #[] }), 
 (27, { cls := Value.type "code", data := Data.fields #[Value.str (Str.ofString "meets") 196, Value.str (Str.ofString "meets") 197, Value.str (Str.ofString "/claim/cut.py") 198, Value.int 5 0, Value.int 2 0, Value.int 0 0, Value.int 0 0, Value.int 3 0, Value.ref 22, Value.bool true, Value.int 181 0, Value.ref 23, Value.none, Value.ref 24, Value.ref 25, Value.ref 26, Value.int 201 0, Value.int 5 0, Value.str (Str.ofString "/claim/cut.py") 202] }), 
 (28, { cls := Value.type "function", data := Data.func { name := Str.ofString "meets", qualname := Str.ofString "meets", params := Mine.F1.1, body := FuncBody.stmts Mine.F1.2.1, scope := Mine.F1.2.2, globals := 3, closure := [], defaults := Value.none, kwdefaults := Value.none, pyModule := Value.str (Str.ofString "lendcore.loans") 194, code := Value.ref 27 } }), 
 (29, { cls := Value.type "tuple", data := Data.seq #[] }), 
 (31, { cls := Value.type "tuple", data := Data.seq #[Value.str (Str.ofString "one") 207, Value.str (Str.ofString "other") 208, Value.str (Str.ofString "a") 209, Value.str (Str.ofString "b") 210] }), 
 (32, { cls := Value.type "tuple", data := Data.seq #[] }), 
 (34, { cls := Value.type "code", data := Data.fields #[Value.str (Str.ofString "may_meet") 204, Value.str (Str.ofString "may_meet") 205, Value.str (Str.ofString "/claim/cut.py") 206, Value.int 9 0, Value.int 2 0, Value.int 0 0, Value.int 0 0, Value.int 3 0, Value.ref 29, Value.bool true, Value.int 181 0, Value.ref 30, Value.none, Value.ref 31, Value.ref 32, Value.ref 33, Value.int 211 0, Value.int 9 0, Value.str (Str.ofString "/claim/cut.py") 212] }), 
 (35, { cls := Value.type "function", data := Data.func { name := Str.ofString "may_meet", qualname := Str.ofString "may_meet", params := Mine.F2.1, body := FuncBody.stmts Mine.F2.2.1, scope := Mine.F2.2.2, globals := 3, closure := [], defaults := Value.none, kwdefaults := Value.none, pyModule := Value.str (Str.ofString "lendcore.loans") 194, code := Value.ref 34 } }), 
 (36, { cls := Value.type "tuple", data := Data.seq #[] }), 
 (38, { cls := Value.type "tuple", data := Data.seq #[Value.str (Str.ofString "short") 217, Value.str (Str.ofString "long") 218, Value.str (Str.ofString "one") 219, Value.str (Str.ofString "other") 220] }), 
 (39, { cls := Value.type "tuple", data := Data.seq #[] }), 
 (41, { cls := Value.type "code", data := Data.fields #[Value.str (Str.ofString "is_prefix") 214, Value.str (Str.ofString "is_prefix") 215, Value.str (Str.ofString "/claim/cut.py") 216, Value.int 14 0, Value.int 2 0, Value.int 0 0, Value.int 0 0, Value.int 3 0, Value.ref 36, Value.bool true, Value.int 181 0, Value.ref 37, Value.none, Value.ref 38, Value.ref 39, Value.ref 40, Value.int 221 0, Value.int 14 0, Value.str (Str.ofString "/claim/cut.py") 222] }), 
 (42, { cls := Value.type "function", data := Data.func { name := Str.ofString "is_prefix", qualname := Str.ofString "is_prefix", params := Mine.F3.1, body := FuncBody.stmts Mine.F3.2.1, scope := Mine.F3.2.2, globals := 3, closure := [], defaults := Value.none, kwdefaults := Value.none, pyModule := Value.str (Str.ofString "lendcore.loans") 194, code := Value.ref 41 } }), 
 (43, { cls := Value.type "tuple", data := Data.seq #[] }), 
 (46, { cls := Value.type "code", data := Data.fields #[Value.str (Str.ofString "killed_by") 224, Value.str (Str.ofString "killed_by") 225, Value.str (Str.ofString "/claim/cut.py") 226, Value.int 21 0, Value.int 2 0, Value.int 0 0, Value.int 0 0, Value.int 3 0, Value.ref 43, Value.bool true, Value.int 181 0, Value.ref 44, Value.none, Value.none, Value.none, Value.ref 45, Value.int 227 0, Value.int 21 0, Value.str (Str.ofString "/claim/cut.py") 228] }), 
 (47, { cls := Value.type "function", data := Data.func { name := Str.ofString "killed_by", qualname := Str.ofString "killed_by", params := Mine.F4.1, body := FuncBody.stmts Mine.F4.2.1, scope := Mine.F4.2.2, globals := 3, closure := [], defaults := Value.none, kwdefaults := Value.none, pyModule := Value.str (Str.ofString "lendcore.loans") 194, code := Value.ref 46 } }), 
 (48, { cls := Value.type "tuple", data := Data.seq #[] }), 
 (51, { cls := Value.type "code", data := Data.fields #[Value.str (Str.ofString "killed_at_end") 230, Value.str (Str.ofString "killed_at_end") 231, Value.str (Str.ofString "/claim/cut.py") 232, Value.int 27 0, Value.int 2 0, Value.int 0 0, Value.int 0 0, Value.int 3 0, Value.ref 48, Value.bool true, Value.int 181 0, Value.ref 49, Value.none, Value.none, Value.none, Value.ref 50, Value.int 233 0, Value.int 27 0, Value.str (Str.ofString "/claim/cut.py") 234] }), 
 (52, { cls := Value.type "function", data := Data.func { name := Str.ofString "killed_at_end", qualname := Str.ofString "killed_at_end", params := Mine.F5.1, body := FuncBody.stmts Mine.F5.2.1, scope := Mine.F5.2.2, globals := 3, closure := [], defaults := Value.none, kwdefaults := Value.none, pyModule := Value.str (Str.ofString "lendcore.loans") 194, code := Value.ref 51 } }), 
 (60, { cls := Value.type "tuple", data := Data.seq #[] }), 
 (62, { cls := Value.type "tuple", data := Data.seq #[Value.str (Str.ofString "self") 251, Value.str (Str.ofString "body") 252, Value.str (Str.ofString "loans") 253, Value.str (Str.ofString "values") 254, Value.str (Str.ofString "numbers") 255, Value.str (Str.ofString "after") 256] }), 
 (63, { cls := Value.type "tuple", data := Data.seq #[] }), 
 (65, { cls := Value.type "code", data := Data.fields #[Value.str (Str.ofString "__init__") 248, Value.str (Str.ofString "LoanScopes.__init__") 249, Value.str (Str.ofString "/claim/cut.py") 250, Value.int 33 0, Value.int 6 0, Value.int 0 0, Value.int 0 0, Value.int 3 0, Value.ref 60, Value.bool true, Value.int 181 0, Value.ref 61, Value.none, Value.ref 62, Value.ref 63, Value.ref 64, Value.int 257 0, Value.int 33 0, Value.str (Str.ofString "/claim/cut.py") 258] }), 
 (66, { cls := Value.type "function", data := Data.func { name := Str.ofString "__init__", qualname := Str.ofString "LoanScopes.__init__", params := Mine.F6.1, body := FuncBody.stmts Mine.F6.2.1, scope := Mine.F6.2.2, globals := 3, closure := [], defaults := Value.none, kwdefaults := Value.none, pyModule := Value.str (Str.ofString "lendcore.loans") 194, code := Value.ref 65 } }), 
 (67, { cls := Value.type "tuple", data := Data.seq #[] }), 
 (70, { cls := Value.type "code", data := Data.fields #[Value.str (Str.ofString "let_on") 260, Value.str (Str.ofString "LoanScopes.let_on") 261, Value.str (Str.ofString "/claim/cut.py") 262, Value.int 42 0, Value.int 3 0, Value.int 0 0, Value.int 0 0, Value.int 3 0, Value.ref 67, Value.bool true, Value.int 181 0, Value.ref 68, Value.none, Value.none, Value.none, Value.ref 69, Value.int 263 0, Value.int 42 0, Value.str (Str.ofString "/claim/cut.py") 264] }), 
 (71, { cls := Value.type "function", data := Data.func { name := Str.ofString "let_on", qualname := Str.ofString "LoanScopes.let_on", params := Mine.F7.1, body := FuncBody.stmts Mine.F7.2.1, scope := Mine.F7.2.2, globals := 3, closure := [], defaults := Value.none, kwdefaults := Value.none, pyModule := Value.str (Str.ofString "lendcore.loans") 194, code := Value.ref 70 } }), 
 (72, { cls := Value.type "tuple", data := Data.seq #[] }), 
 (75, { cls := Value.type "code", data := Data.fields #[Value.str (Str.ofString "behind") 266, Value.str (Str.ofString "LoanScopes.behind") 267, Value.str (Str.ofString "/claim/cut.py") 268, Value.int 46 0, Value.int 3 0, Value.int 0 0, Value.int 0 0, Value.int 3 0, Value.ref 72, Value.bool true, Value.int 181 0, Value.ref 73, Value.none, Value.none, Value.none, Value.ref 74, Value.int 269 0, Value.int 46 0, Value.str (Str.ofString "/claim/cut.py") 270] }), 
 (76, { cls := Value.type "function", data := Data.func { name := Str.ofString "behind", qualname := Str.ofString "LoanScopes.behind", params := Mine.F8.1, body := FuncBody.stmts Mine.F8.2.1, scope := Mine.F8.2.2, globals := 3, closure := [], defaults := Value.none, kwdefaults := Value.none, pyModule := Value.str (Str.ofString "lendcore.loans") 194, code := Value.ref 75 } }), 
 (77, { cls := Value.type "tuple", data := Data.seq #[] }), 
 (79, { cls := Value.type "tuple", data := Data.seq #[Value.str (Str.ofString "self") 275, Value.str (Str.ofString "left") 276, Value.str (Str.ofString "block") 277, Value.str (Str.ofString "some") 278, Value.str (Str.ofString "index") 279, Value.str (Str.ofString "later") 280, Value.str (Str.ofString "both") 281] }), 
 (80, { cls := Value.type "tuple", data := Data.seq #[] }), 
 (82, { cls := Value.type "code", data := Data.fields #[Value.str (Str.ofString "lead") 272, Value.str (Str.ofString "LoanScopes.lead") 273, Value.str (Str.ofString "/claim/cut.py") 274, Value.int 54 0, Value.int 1 0, Value.int 0 0, Value.int 0 0, Value.int 3 0, Value.ref 77, Value.bool true, Value.int 181 0, Value.ref 78, Value.none, Value.ref 79, Value.ref 80, Value.ref 81, Value.int 282 0, Value.int 54 0, Value.str (Str.ofString "/claim/cut.py") 283] }), 
 (83, { cls := Value.type "function", data := Data.func { name := Str.ofString "lead", qualname := Str.ofString "LoanScopes.lead", params := Mine.F9.1, body := FuncBody.stmts Mine.F9.2.1, scope := Mine.F9.2.2, globals := 3, closure := [], defaults := Value.none, kwdefaults := Value.none, pyModule := Value.str (Str.ofString "lendcore.loans") 194, code := Value.ref 82 } }), 
 (84, { cls := Value.type "tuple", data := Data.seq #[] }), 
 (86, { cls := Value.type "tuple", data := Data.seq #[Value.str (Str.ofString "self") 288, Value.str (Str.ofString "block") 289, Value.str (Str.ofString "some") 290, Value.str (Str.ofString "index") 291, Value.str (Str.ofString "here") 292] }), 
 (87, { cls := Value.type "tuple", data := Data.seq #[] }), 
 (89, { cls := Value.type "code", data := Data.fields #[Value.str (Str.ofString "keep") 285, Value.str (Str.ofString "LoanScopes.keep") 286, Value.str (Str.ofString "/claim/cut.py") 287, Value.int 68 0, Value.int 1 0, Value.int 0 0, Value.int 0 0, Value.int 3 0, Value.ref 84, Value.bool true, Value.int 181 0, Value.ref 85, Value.none, Value.ref 86, Value.ref 87, Value.ref 88, Value.int 293 0, Value.int 68 0, Value.str (Str.ofString "/claim/cut.py") 294] }), 
 (90, { cls := Value.type "function", data := Data.func { name := Str.ofString "keep", qualname := Str.ofString "LoanScopes.keep", params := Mine.F10.1, body := FuncBody.stmts Mine.F10.2.1, scope := Mine.F10.2.2, globals := 3, closure := [], defaults := Value.none, kwdefaults := Value.none, pyModule := Value.str (Str.ofString "lendcore.loans") 194, code := Value.ref 89 } }), 
 (91, { cls := Value.type "tuple", data := Data.seq #[] }), 
 (93, { cls := Value.type "tuple", data := Data.seq #[Value.str (Str.ofString "self") 299, Value.str (Str.ofString "point") 300] }), 
 (94, { cls := Value.type "tuple", data := Data.seq #[] }), 
 (96, { cls := Value.type "code", data := Data.fields #[Value.str (Str.ofString "at") 296, Value.str (Str.ofString "LoanScopes.at") 297, Value.str (Str.ofString "/claim/cut.py") 298, Value.int 77 0, Value.int 2 0, Value.int 0 0, Value.int 0 0, Value.int 3 0, Value.ref 91, Value.bool true, Value.int 181 0, Value.ref 92, Value.none, Value.ref 93, Value.ref 94, Value.ref 95, Value.int 301 0, Value.int 77 0, Value.str (Str.ofString "/claim/cut.py") 302] }), 
 (97, { cls := Value.type "function", data := Data.func { name := Str.ofString "at", qualname := Str.ofString "LoanScopes.at", params := Mine.F11.1, body := FuncBody.stmts Mine.F11.2.1, scope := Mine.F11.2.2, globals := 3, closure := [], defaults := Value.none, kwdefaults := Value.none, pyModule := Value.str (Str.ofString "lendcore.loans") 194, code := Value.ref 96 } }), 
 (98, { cls := Value.type "tuple", data := Data.seq #[Value.str (Str.ofString "after") 304, Value.str (Str.ofString "begins") 305, Value.str (Str.ofString "body") 306, Value.str (Str.ofString "kept") 307, Value.str (Str.ofString "loans") 308, Value.str (Str.ofString "numbers") 309, Value.str (Str.ofString "values") 310] }), 
 (99, { cls := Value.type "dict", data := Data.dict #[{ hash := PyData.keyHash P (Str.ofString "__module__"), key := Value.str (Str.ofString "__module__") 243, val := Value.str (Str.ofString "lendcore.loans") 194 }, { hash := PyData.keyHash P (Str.ofString "__firstlineno__"), key := Value.str (Str.ofString "__firstlineno__") 247, val := Value.int 31 246 }, { hash := PyData.keyHash P (Str.ofString "__init__"), key := Value.str (Str.ofString "__init__") 259, val := Value.ref 66 }, { hash := PyData.keyHash P (Str.ofString "let_on"), key := Value.str (Str.ofString "let_on") 265, val := Value.ref 71 }, { hash := PyData.keyHash P (Str.ofString "behind"), key := Value.str (Str.ofString "behind") 271, val := Value.ref 76 }, { hash := PyData.keyHash P (Str.ofString "lead"), key := Value.str (Str.ofString "lead") 284, val := Value.ref 83 }, { hash := PyData.keyHash P (Str.ofString "keep"), key := Value.str (Str.ofString "keep") 295, val := Value.ref 90 }, { hash := PyData.keyHash P (Str.ofString "at"), key := Value.str (Str.ofString "at") 303, val := Value.ref 97 }, { hash := PyData.keyHash P (Str.ofString "__static_attributes__"), key := Value.str (Str.ofString "__static_attributes__") 311, val := Value.ref 98 }, { hash := PyData.keyHash P (Str.ofString "__dict__"), key := Value.str (Str.ofString "__dict__") 313, val := Value.ref 101 }, { hash := PyData.keyHash P (Str.ofString "__weakref__"), key := Value.str (Str.ofString "__weakref__") 315, val := Value.ref 102 }, { hash := PyData.keyHash P (Str.ofString "__doc__"), key := Value.str (Str.ofString "__doc__") 316, val := Value.none }] 4 }), 
 (100, { cls := Value.type "type", data := Data.cls { name := Str.ofString "LoanScopes", bases := [Value.type "object"], mro := [Value.ref 100, Value.type "object"], ns := 99, qualname := Str.ofString "LoanScopes" }, slots := #[none, none, some (Value.str (Str.ofString "LoanScopes") 236), some (Value.str (Str.ofString "LoanScopes") 244), some (Value.builtin "object.__new__"), some (Value.bool true)] }), 
 (101, { cls := Value.type "getset_descriptor", data := Data.fields #[Value.str (Str.ofString "__dict__") 312, Value.ref 100, Value.builtin "function.__dict__", Value.builtin "function.__dict__#set"] }), 
 (102, { cls := Value.type "getset_descriptor", data := Data.fields #[Value.str (Str.ofString "__weakref__") 314, Value.ref 100, Value.builtin "ExceptionGroup.__weakref__", Value.none] }), 
 (112, { cls := Value.type "tuple", data := Data.seq #[Value.none, Value.none] }), 
 (113, { cls := Value.type "tuple", data := Data.seq #[] }), 
 (115, { cls := Value.type "tuple", data := Data.seq #[Value.str (Str.ofString "self") 336, Value.str (Str.ofString "name") 337, Value.str (Str.ofString "arg_count") 338, Value.str (Str.ofString "locals_told") 339, Value.str (Str.ofString "blocks") 340, Value.str (Str.ofString "spots") 341] }), 
 (116, { cls := Value.type "tuple", data := Data.seq #[] }), 
 (118, { cls := Value.type "code", data := Data.fields #[Value.str (Str.ofString "__init__") 333, Value.str (Str.ofString "Body.__init__") 334, Value.str (Str.ofString "/claim/cut.py") 335, Value.int 84 0, Value.int 6 0, Value.int 0 0, Value.int 0 0, Value.int 3 0, Value.ref 113, Value.bool true, Value.int 181 0, Value.ref 114, Value.none, Value.ref 115, Value.ref 116, Value.ref 117, Value.int 342 0, Value.int 84 0, Value.str (Str.ofString "/claim/cut.py") 343] }), 
 (119, { cls := Value.type "function", data := Data.func { name := Str.ofString "__init__", qualname := Str.ofString "Body.__init__", params := Mine.F12.1, body := FuncBody.stmts Mine.F12.2.1, scope := Mine.F12.2.2, globals := 3, closure := [], defaults := Value.ref 112, kwdefaults := Value.none, pyModule := Value.str (Str.ofString "lendcore.mir") 319, code := Value.ref 118 } }), 
 (120, { cls := Value.type "tuple", data := Data.seq #[] }), 
 (122, { cls := Value.type "tuple", data := Data.seq #[Value.str (Str.ofString "self") 348, Value.str (Str.ofString "local") 349] }), 
 (123, { cls := Value.type "tuple", data := Data.seq #[] }), 
 (125, { cls := Value.type "code", data := Data.fields #[Value.str (Str.ofString "type_of") 345, Value.str (Str.ofString "Body.type_of") 346, Value.str (Str.ofString "/claim/cut.py") 347, Value.int 91 0, Value.int 2 0, Value.int 0 0, Value.int 0 0, Value.int 3 0, Value.ref 120, Value.bool true, Value.int 181 0, Value.ref 121, Value.none, Value.ref 122, Value.ref 123, Value.ref 124, Value.int 350 0, Value.int 91 0, Value.str (Str.ofString "/claim/cut.py") 351] }), 
 (126, { cls := Value.type "function", data := Data.func { name := Str.ofString "type_of", qualname := Str.ofString "Body.type_of", params := Mine.F13.1, body := FuncBody.stmts Mine.F13.2.1, scope := Mine.F13.2.2, globals := 3, closure := [], defaults := Value.none, kwdefaults := Value.none, pyModule := Value.str (Str.ofString "lendcore.mir") 319, code := Value.ref 125 } }), 
 (127, { cls := Value.type "tuple", data := Data.seq #[] }), 
 (129, { cls := Value.type "tuple", data := Data.seq #[Value.str (Str.ofString "self") 356] }), 
 (130, { cls := Value.type "tuple", data := Data.seq #[] }), 
 (132, { cls := Value.type "code", data := Data.fields #[Value.str (Str.ofString "args") 353, Value.str (Str.ofString "Body.args") 354, Value.str (Str.ofString "/claim/cut.py") 355, Value.int 94 0, Value.int 1 0, Value.int 0 0, Value.int 0 0, Value.int 3 0, Value.ref 127, Value.bool true, Value.int 181 0, Value.ref 128, Value.none, Value.ref 129, Value.ref 130, Value.ref 131, Value.int 357 0, Value.int 94 0, Value.str (Str.ofString "/claim/cut.py") 358] }), 
 (133, { cls := Value.type "function", data := Data.func { name := Str.ofString "args", qualname := Str.ofString "Body.args", params := Mine.F14.1, body := FuncBody.stmts Mine.F14.2.1, scope := Mine.F14.2.2, globals := 3, closure := [], defaults := Value.none, kwdefaults := Value.none, pyModule := Value.str (Str.ofString "lendcore.mir") 319, code := Value.ref 132 } }), 
 (134, { cls := Value.type "tuple", data := Data.seq #[] }), 
 (136, { cls := Value.type "tuple", data := Data.seq #[Value.str (Str.ofString "self") 363, Value.str (Str.ofString "block") 364] }), 
 (137, { cls := Value.type "tuple", data := Data.seq #[] }), 
 (139, { cls := Value.type "code", data := Data.fields #[Value.str (Str.ofString "statements") 360, Value.str (Str.ofString "Body.statements") 361, Value.str (Str.ofString "/claim/cut.py") 362, Value.int 97 0, Value.int 2 0, Value.int 0 0, Value.int 0 0, Value.int 3 0, Value.ref 134, Value.bool true, Value.int 181 0, Value.ref 135, Value.none, Value.ref 136, Value.ref 137, Value.ref 138, Value.int 365 0, Value.int 97 0, Value.str (Str.ofString "/claim/cut.py") 366] }), 
 (140, { cls := Value.type "function", data := Data.func { name := Str.ofString "statements", qualname := Str.ofString "Body.statements", params := Mine.F15.1, body := FuncBody.stmts Mine.F15.2.1, scope := Mine.F15.2.2, globals := 3, closure := [], defaults := Value.none, kwdefaults := Value.none, pyModule := Value.str (Str.ofString "lendcore.mir") 319, code := Value.ref 139 } }), 
 (141, { cls := Value.type "tuple", data := Data.seq #[] }), 
 (143, { cls := Value.type "tuple", data := Data.seq #[Value.str (Str.ofString "self") 371, Value.str (Str.ofString "block") 372] }), 
 (144, { cls := Value.type "tuple", data := Data.seq #[] }), 
 (146, { cls := Value.type "code", data := Data.fields #[Value.str (Str.ofString "terminator") 368, Value.str (Str.ofString "Body.terminator") 369, Value.str (Str.ofString "/claim/cut.py") 370, Value.int 100 0, Value.int 2 0, Value.int 0 0, Value.int 0 0, Value.int 3 0, Value.ref 141, Value.bool true, Value.int 181 0, Value.ref 142, Value.none, Value.ref 143, Value.ref 144, Value.ref 145, Value.int 373 0, Value.int 100 0, Value.str (Str.ofString "/claim/cut.py") 374] }), 
 (147, { cls := Value.type "function", data := Data.func { name := Str.ofString "terminator", qualname := Str.ofString "Body.terminator", params := Mine.F16.1, body := FuncBody.stmts Mine.F16.2.1, scope := Mine.F16.2.2, globals := 3, closure := [], defaults := Value.none, kwdefaults := Value.none, pyModule := Value.str (Str.ofString "lendcore.mir") 319, code := Value.ref 146 } }), 
 (148, { cls := Value.type "tuple", data := Data.seq #[] }), 
 (150, { cls := Value.type "tuple", data := Data.seq #[Value.str (Str.ofString "self") 379, Value.str (Str.ofString "point") 380] }), 
 (151, { cls := Value.type "tuple", data := Data.seq #[] }), 
 (153, { cls := Value.type "code", data := Data.fields #[Value.str (Str.ofString "spot") 376, Value.str (Str.ofString "Body.spot") 377, Value.str (Str.ofString "/claim/cut.py") 378, Value.int 103 0, Value.int 2 0, Value.int 0 0, Value.int 0 0, Value.int 3 0, Value.ref 148, Value.bool true, Value.int 181 0, Value.ref 149, Value.none, Value.ref 150, Value.ref 151, Value.ref 152, Value.int 381 0, Value.int 103 0, Value.str (Str.ofString "/claim/cut.py") 382] }), 
 (154, { cls := Value.type "function", data := Data.func { name := Str.ofString "spot", qualname := Str.ofString "Body.spot", params := Mine.F17.1, body := FuncBody.stmts Mine.F17.2.1, scope := Mine.F17.2.2, globals := 3, closure := [], defaults := Value.none, kwdefaults := Value.none, pyModule := Value.str (Str.ofString "lendcore.mir") 319, code := Value.ref 153 } }), 
 (155, { cls := Value.type "tuple", data := Data.seq #[Value.bool true, Value.none] }), 
 (156, { cls := Value.type "tuple", data := Data.seq #[] }), 
 (158, { cls := Value.type "tuple", data := Data.seq #[Value.str (Str.ofString "self") 387, Value.str (Str.ofString "told") 388, Value.str (Str.ofString "is_mut") 389, Value.str (Str.ofString "name") 390] }), 
 (159, { cls := Value.type "tuple", data := Data.seq #[] }), 
 (161, { cls := Value.type "code", data := Data.fields #[Value.str (Str.ofString "new_local") 384, Value.str (Str.ofString "Body.new_local") 385, Value.str (Str.ofString "/claim/cut.py") 386, Value.int 106 0, Value.int 4 0, Value.int 0 0, Value.int 0 0, Value.int 3 0, Value.ref 156, Value.bool true, Value.int 181 0, Value.ref 157, Value.none, Value.ref 158, Value.ref 159, Value.ref 160, Value.int 391 0, Value.int 106 0, Value.str (Str.ofString "/claim/cut.py") 392] }), 
 (162, { cls := Value.type "function", data := Data.func { name := Str.ofString "new_local", qualname := Str.ofString "Body.new_local", params := Mine.F18.1, body := FuncBody.stmts Mine.F18.2.1, scope := Mine.F18.2.2, globals := 3, closure := [], defaults := Value.ref 155, kwdefaults := Value.none, pyModule := Value.str (Str.ofString "lendcore.mir") 319, code := Value.ref 161 } }), 
 (163, { cls := Value.type "tuple", data := Data.seq #[Value.str (Str.ofString "arg_count") 394, Value.str (Str.ofString "blocks") 395, Value.str (Str.ofString "locals") 396, Value.str (Str.ofString "name") 397, Value.str (Str.ofString "spots") 398] }), 
 (164, { cls := Value.type "dict", data := Data.dict #[{ hash := PyData.keyHash P (Str.ofString "__module__"), key := Value.str (Str.ofString "__module__") 328, val := Value.str (Str.ofString "lendcore.mir") 319 }, { hash := PyData.keyHash P (Str.ofString "__firstlineno__"), key := Value.str (Str.ofString "__firstlineno__") 332, val := Value.int 82 331 }, { hash := PyData.keyHash P (Str.ofString "__init__"), key := Value.str (Str.ofString "__init__") 344, val := Value.ref 119 }, { hash := PyData.keyHash P (Str.ofString "type_of"), key := Value.str (Str.ofString "type_of") 352, val := Value.ref 126 }, { hash := PyData.keyHash P (Str.ofString "args"), key := Value.str (Str.ofString "args") 359, val := Value.ref 133 }, { hash := PyData.keyHash P (Str.ofString "statements"), key := Value.str (Str.ofString "statements") 367, val := Value.ref 140 }, { hash := PyData.keyHash P (Str.ofString "terminator"), key := Value.str (Str.ofString "terminator") 375, val := Value.ref 147 }, { hash := PyData.keyHash P (Str.ofString "spot"), key := Value.str (Str.ofString "spot") 383, val := Value.ref 154 }, { hash := PyData.keyHash P (Str.ofString "new_local"), key := Value.str (Str.ofString "new_local") 393, val := Value.ref 162 }, { hash := PyData.keyHash P (Str.ofString "__static_attributes__"), key := Value.str (Str.ofString "__static_attributes__") 399, val := Value.ref 163 }, { hash := PyData.keyHash P (Str.ofString "__dict__"), key := Value.str (Str.ofString "__dict__") 401, val := Value.ref 166 }, { hash := PyData.keyHash P (Str.ofString "__weakref__"), key := Value.str (Str.ofString "__weakref__") 403, val := Value.ref 167 }, { hash := PyData.keyHash P (Str.ofString "__doc__"), key := Value.str (Str.ofString "__doc__") 404, val := Value.none }] 4 }), 
 (165, { cls := Value.type "type", data := Data.cls { name := Str.ofString "Body", bases := [Value.type "object"], mro := [Value.ref 165, Value.type "object"], ns := 164, qualname := Str.ofString "Body" }, slots := #[none, none, some (Value.str (Str.ofString "Body") 321), some (Value.str (Str.ofString "Body") 329), some (Value.builtin "object.__new__"), some (Value.bool true)] }), 
 (166, { cls := Value.type "getset_descriptor", data := Data.fields #[Value.str (Str.ofString "__dict__") 400, Value.ref 165, Value.builtin "function.__dict__", Value.builtin "function.__dict__#set"] }), 
 (167, { cls := Value.type "getset_descriptor", data := Data.fields #[Value.str (Str.ofString "__weakref__") 402, Value.ref 165, Value.builtin "ExceptionGroup.__weakref__", Value.none] }), 
 (170, { cls := Value.type "tuple", data := Data.seq #[] }), 
 (172, { cls := Value.type "tuple", data := Data.seq #[Value.str (Str.ofString "script") 412, Value.str (Str.ofString "cell") 413, Value.str (Str.ofString "size") 414] }), 
 (173, { cls := Value.type "tuple", data := Data.seq #[] }), 
 (175, { cls := Value.type "code", data := Data.fields #[Value.str (Str.ofString "_law_pool") 409, Value.str (Str.ofString "_law_pool") 410, Value.str (Str.ofString "/claim/cut.py") 411, Value.int 109 0, Value.int 1 0, Value.int 0 0, Value.int 0 0, Value.int 3 0, Value.ref 170, Value.bool true, Value.int 181 0, Value.ref 171, Value.none, Value.ref 172, Value.ref 173, Value.ref 174, Value.int 415 0, Value.int 109 0, Value.str (Str.ofString "/claim/cut.py") 416] }), 
 (176, { cls := Value.type "function", data := Data.func { name := Str.ofString "_law_pool", qualname := Str.ofString "_law_pool", params := Mine.F19.1, body := FuncBody.stmts Mine.F19.2.1, scope := Mine.F19.2.2, globals := 3, closure := [], defaults := Value.none, kwdefaults := Value.none, pyModule := Value.str (Str.ofString "law_xm0588_01") 407, code := Value.ref 175 } }), 
 (177, { cls := Value.type "tuple", data := Data.seq #[] }), 
 (179, { cls := Value.type "tuple", data := Data.seq #[Value.str (Str.ofString "source") 421, Value.str (Str.ofString "top") 422, Value.str (Str.ofString "figure") 423] }), 
 (180, { cls := Value.type "tuple", data := Data.seq #[] }), 
 (182, { cls := Value.type "code", data := Data.fields #[Value.str (Str.ofString "_law_take") 418, Value.str (Str.ofString "_law_take") 419, Value.str (Str.ofString "/claim/cut.py") 420, Value.int 113 0, Value.int 2 0, Value.int 0 0, Value.int 0 0, Value.int 3 0, Value.ref 177, Value.bool true, Value.int 181 0, Value.ref 178, Value.none, Value.ref 179, Value.ref 180, Value.ref 181, Value.int 424 0, Value.int 113 0, Value.str (Str.ofString "/claim/cut.py") 425] }), 
 (183, { cls := Value.type "function", data := Data.func { name := Str.ofString "_law_take", qualname := Str.ofString "_law_take", params := Mine.F20.1, body := FuncBody.stmts Mine.F20.2.1, scope := Mine.F20.2.2, globals := 3, closure := [], defaults := Value.none, kwdefaults := Value.none, pyModule := Value.str (Str.ofString "law_xm0588_01") 407, code := Value.ref 182 } }), 
 (184, { cls := Value.type "tuple", data := Data.seq #[] }), 
 (186, { cls := Value.type "tuple", data := Data.seq #[Value.str (Str.ofString "source") 430, Value.str (Str.ofString "things") 431] }), 
 (187, { cls := Value.type "tuple", data := Data.seq #[] }), 
 (189, { cls := Value.type "code", data := Data.fields #[Value.str (Str.ofString "_law_one") 427, Value.str (Str.ofString "_law_one") 428, Value.str (Str.ofString "/claim/cut.py") 429, Value.int 120 0, Value.int 2 0, Value.int 0 0, Value.int 0 0, Value.int 3 0, Value.ref 184, Value.bool true, Value.int 181 0, Value.ref 185, Value.none, Value.ref 186, Value.ref 187, Value.ref 188, Value.int 432 0, Value.int 120 0, Value.str (Str.ofString "/claim/cut.py") 433] }), 
 (190, { cls := Value.type "function", data := Data.func { name := Str.ofString "_law_one", qualname := Str.ofString "_law_one", params := Mine.F21.1, body := FuncBody.stmts Mine.F21.2.1, scope := Mine.F21.2.2, globals := 3, closure := [], defaults := Value.none, kwdefaults := Value.none, pyModule := Value.str (Str.ofString "law_xm0588_01") 407, code := Value.ref 189 } }), 
 (191, { cls := Value.type "tuple", data := Data.seq #[] }), 
 (193, { cls := Value.type "tuple", data := Data.seq #[Value.str (Str.ofString "end") 438] }), 
 (194, { cls := Value.type "tuple", data := Data.seq #[] }), 
 (196, { cls := Value.type "code", data := Data.fields #[Value.str (Str.ofString "_law_after") 435, Value.str (Str.ofString "_law_after") 436, Value.str (Str.ofString "/claim/cut.py") 437, Value.int 122 0, Value.int 1 0, Value.int 0 0, Value.int 0 0, Value.int 3 0, Value.ref 191, Value.bool true, Value.int 181 0, Value.ref 192, Value.none, Value.ref 193, Value.ref 194, Value.ref 195, Value.int 439 0, Value.int 122 0, Value.str (Str.ofString "/claim/cut.py") 440] }), 
 (197, { cls := Value.type "function", data := Data.func { name := Str.ofString "_law_after", qualname := Str.ofString "_law_after", params := Mine.F22.1, body := FuncBody.stmts Mine.F22.2.1, scope := Mine.F22.2.2, globals := 3, closure := [], defaults := Value.none, kwdefaults := Value.none, pyModule := Value.str (Str.ofString "law_xm0588_01") 407, code := Value.ref 196 } }), 
 (198, { cls := Value.type "tuple", data := Data.seq #[] }), 
 (200, { cls := Value.type "tuple", data := Data.seq #[Value.str (Str.ofString "one") 445, Value.str (Str.ofString "other") 446] }), 
 (201, { cls := Value.type "tuple", data := Data.seq #[] }), 
 (203, { cls := Value.type "code", data := Data.fields #[Value.str (Str.ofString "_law_aside") 442, Value.str (Str.ofString "_law_aside") 443, Value.str (Str.ofString "/claim/cut.py") 444, Value.int 128 0, Value.int 2 0, Value.int 0 0, Value.int 0 0, Value.int 3 0, Value.ref 198, Value.bool true, Value.int 181 0, Value.ref 199, Value.none, Value.ref 200, Value.ref 201, Value.ref 202, Value.int 447 0, Value.int 128 0, Value.str (Str.ofString "/claim/cut.py") 448] }), 
 (204, { cls := Value.type "function", data := Data.func { name := Str.ofString "_law_aside", qualname := Str.ofString "_law_aside", params := Mine.F23.1, body := FuncBody.stmts Mine.F23.2.1, scope := Mine.F23.2.2, globals := 3, closure := [], defaults := Value.none, kwdefaults := Value.none, pyModule := Value.str (Str.ofString "law_xm0588_01") 407, code := Value.ref 203 } }), 
 (205, { cls := Value.type "tuple", data := Data.seq #[] }), 
 (208, { cls := Value.type "code", data := Data.fields #[Value.str (Str.ofString "_law_steps_right") 450, Value.str (Str.ofString "_law_steps_right") 451, Value.str (Str.ofString "/claim/cut.py") 452, Value.int 130 0, Value.int 1 0, Value.int 0 0, Value.int 0 0, Value.int 3 0, Value.ref 205, Value.bool true, Value.int 181 0, Value.ref 206, Value.none, Value.none, Value.none, Value.ref 207, Value.int 453 0, Value.int 130 0, Value.str (Str.ofString "/claim/cut.py") 454] }), 
 (209, { cls := Value.type "function", data := Data.func { name := Str.ofString "_law_steps_right", qualname := Str.ofString "_law_steps_right", params := Mine.F24.1, body := FuncBody.stmts Mine.F24.2.1, scope := Mine.F24.2.2, globals := 3, closure := [], defaults := Value.none, kwdefaults := Value.none, pyModule := Value.str (Str.ofString "law_xm0588_01") 407, code := Value.ref 208 } }), 
 (210, { cls := Value.type "tuple", data := Data.seq #[] }), 
 (212, { cls := Value.type "tuple", data := Data.seq #[Value.str (Str.ofString "source") 459, Value.str (Str.ofString "some") 460] }), 
 (213, { cls := Value.type "tuple", data := Data.seq #[] }), 
 (215, { cls := Value.type "code", data := Data.fields #[Value.str (Str.ofString "_law_place") 456, Value.str (Str.ofString "_law_place") 457, Value.str (Str.ofString "/claim/cut.py") 458, Value.int 140 0, Value.int 1 0, Value.int 0 0, Value.int 0 0, Value.int 3 0, Value.ref 210, Value.bool true, Value.int 181 0, Value.ref 211, Value.none, Value.ref 212, Value.ref 213, Value.ref 214, Value.int 461 0, Value.int 140 0, Value.str (Str.ofString "/claim/cut.py") 462] }), 
 (216, { cls := Value.type "function", data := Data.func { name := Str.ofString "_law_place", qualname := Str.ofString "_law_place", params := Mine.F25.1, body := FuncBody.stmts Mine.F25.2.1, scope := Mine.F25.2.2, globals := 3, closure := [], defaults := Value.none, kwdefaults := Value.none, pyModule := Value.str (Str.ofString "law_xm0588_01") 407, code := Value.ref 215 } }), 
 (217, { cls := Value.type "tuple", data := Data.seq #[] }), 
 (219, { cls := Value.type "tuple", data := Data.seq #[Value.str (Str.ofString "source") 467, Value.str (Str.ofString "way") 468] }), 
 (220, { cls := Value.type "tuple", data := Data.seq #[] }), 
 (222, { cls := Value.type "code", data := Data.fields #[Value.str (Str.ofString "_law_statement") 464, Value.str (Str.ofString "_law_statement") 465, Value.str (Str.ofString "/claim/cut.py") 466, Value.int 143 0, Value.int 1 0, Value.int 0 0, Value.int 0 0, Value.int 3 0, Value.ref 217, Value.bool true, Value.int 181 0, Value.ref 218, Value.none, Value.ref 219, Value.ref 220, Value.ref 221, Value.int 469 0, Value.int 143 0, Value.str (Str.ofString "/claim/cut.py") 470] }), 
 (223, { cls := Value.type "function", data := Data.func { name := Str.ofString "_law_statement", qualname := Str.ofString "_law_statement", params := Mine.F26.1, body := FuncBody.stmts Mine.F26.2.1, scope := Mine.F26.2.2, globals := 3, closure := [], defaults := Value.none, kwdefaults := Value.none, pyModule := Value.str (Str.ofString "law_xm0588_01") 407, code := Value.ref 222 } }), 
 (224, { cls := Value.type "tuple", data := Data.seq #[] }), 
 (226, { cls := Value.type "tuple", data := Data.seq #[Value.str (Str.ofString "source") 475, Value.str (Str.ofString "many") 476, Value.str (Str.ofString "one") 477, Value.str (Str.ofString "other") 478, Value.str (Str.ofString "truth") 479] }), 
 (227, { cls := Value.type "tuple", data := Data.seq #[] }), 
 (229, { cls := Value.type "code", data := Data.fields #[Value.str (Str.ofString "_law_end") 472, Value.str (Str.ofString "_law_end") 473, Value.str (Str.ofString "/claim/cut.py") 474, Value.int 150 0, Value.int 2 0, Value.int 0 0, Value.int 0 0, Value.int 3 0, Value.ref 224, Value.bool true, Value.int 181 0, Value.ref 225, Value.none, Value.ref 226, Value.ref 227, Value.ref 228, Value.int 480 0, Value.int 150 0, Value.str (Str.ofString "/claim/cut.py") 481] }), 
 (230, { cls := Value.type "function", data := Data.func { name := Str.ofString "_law_end", qualname := Str.ofString "_law_end", params := Mine.F27.1, body := FuncBody.stmts Mine.F27.2.1, scope := Mine.F27.2.2, globals := 3, closure := [], defaults := Value.none, kwdefaults := Value.none, pyModule := Value.str (Str.ofString "law_xm0588_01") 407, code := Value.ref 229 } }), 
 (231, { cls := Value.type "tuple", data := Data.seq #[] }), 
 (234, { cls := Value.type "code", data := Data.fields #[Value.str (Str.ofString "_law_is_ended") 483, Value.str (Str.ofString "_law_is_ended") 484, Value.str (Str.ofString "/claim/cut.py") 485, Value.int 154 0, Value.int 2 0, Value.int 0 0, Value.int 0 0, Value.int 3 0, Value.ref 231, Value.bool true, Value.int 181 0, Value.ref 232, Value.none, Value.none, Value.none, Value.ref 233, Value.int 486 0, Value.int 154 0, Value.str (Str.ofString "/claim/cut.py") 487] }), 
 (235, { cls := Value.type "function", data := Data.func { name := Str.ofString "_law_is_ended", qualname := Str.ofString "_law_is_ended", params := Mine.F28.1, body := FuncBody.stmts Mine.F28.2.1, scope := Mine.F28.2.2, globals := 3, closure := [], defaults := Value.none, kwdefaults := Value.none, pyModule := Value.str (Str.ofString "law_xm0588_01") 407, code := Value.ref 234 } }), 
 (236, { cls := Value.type "tuple", data := Data.seq #[] }), 
 (238, { cls := Value.type "tuple", data := Data.seq #[Value.str (Str.ofString "blocks") 492, Value.str (Str.ofString "point") 493, Value.str (Str.ofString "loan") 494, Value.str (Str.ofString "statements") 495, Value.str (Str.ofString "end") 496, Value.str (Str.ofString "statement") 497] }), 
 (239, { cls := Value.type "tuple", data := Data.seq #[] }), 
 (241, { cls := Value.type "code", data := Data.fields #[Value.str (Str.ofString "_law_goes_on") 489, Value.str (Str.ofString "_law_goes_on") 490, Value.str (Str.ofString "/claim/cut.py") 491, Value.int 159 0, Value.int 3 0, Value.int 0 0, Value.int 0 0, Value.int 3 0, Value.ref 236, Value.bool true, Value.int 181 0, Value.ref 237, Value.none, Value.ref 238, Value.ref 239, Value.ref 240, Value.int 498 0, Value.int 159 0, Value.str (Str.ofString "/claim/cut.py") 499] }), 
 (242, { cls := Value.type "function", data := Data.func { name := Str.ofString "_law_goes_on", qualname := Str.ofString "_law_goes_on", params := Mine.F29.1, body := FuncBody.stmts Mine.F29.2.1, scope := Mine.F29.2.2, globals := 3, closure := [], defaults := Value.none, kwdefaults := Value.none, pyModule := Value.str (Str.ofString "law_xm0588_01") 407, code := Value.ref 241 } }), 
 (243, { cls := Value.type "tuple", data := Data.seq #[] }), 
 (246, { cls := Value.type "code", data := Data.fields #[Value.str (Str.ofString "_law_next") 501, Value.str (Str.ofString "_law_next") 502, Value.str (Str.ofString "/claim/cut.py") 503, Value.int 169 0, Value.int 2 0, Value.int 0 0, Value.int 0 0, Value.int 3 0, Value.ref 243, Value.bool true, Value.int 181 0, Value.ref 244, Value.none, Value.none, Value.none, Value.ref 245, Value.int 504 0, Value.int 169 0, Value.str (Str.ofString "/claim/cut.py") 505] }), 
 (247, { cls := Value.type "function", data := Data.func { name := Str.ofString "_law_next", qualname := Str.ofString "_law_next", params := Mine.F30.1, body := FuncBody.stmts Mine.F30.2.1, scope := Mine.F30.2.2, globals := 3, closure := [], defaults := Value.none, kwdefaults := Value.none, pyModule := Value.str (Str.ofString "law_xm0588_01") 407, code := Value.ref 246 } }), 
 (248, { cls := Value.type "tuple", data := Data.seq #[] }), 
 (250, { cls := Value.type "tuple", data := Data.seq #[Value.str (Str.ofString "blocks") 510, Value.str (Str.ofString "found") 511, Value.str (Str.ofString "left") 512, Value.str (Str.ofString "block") 513] }), 
 (251, { cls := Value.type "tuple", data := Data.seq #[] }), 
 (253, { cls := Value.type "code", data := Data.fields #[Value.str (Str.ofString "_law_come_to") 507, Value.str (Str.ofString "_law_come_to") 508, Value.str (Str.ofString "/claim/cut.py") 509, Value.int 174 0, Value.int 1 0, Value.int 0 0, Value.int 0 0, Value.int 3 0, Value.ref 248, Value.bool true, Value.int 181 0, Value.ref 249, Value.none, Value.ref 250, Value.ref 251, Value.ref 252, Value.int 514 0, Value.int 174 0, Value.str (Str.ofString "/claim/cut.py") 515] }), 
 (254, { cls := Value.type "function", data := Data.func { name := Str.ofString "_law_come_to", qualname := Str.ofString "_law_come_to", params := Mine.F31.1, body := FuncBody.stmts Mine.F31.2.1, scope := Mine.F31.2.2, globals := 3, closure := [], defaults := Value.none, kwdefaults := Value.none, pyModule := Value.str (Str.ofString "law_xm0588_01") 407, code := Value.ref 253 } }), 
 (255, { cls := Value.type "tuple", data := Data.seq #[] }), 
 (257, { cls := Value.type "tuple", data := Data.seq #[Value.str (Str.ofString "blocks") 520, Value.str (Str.ofString "loan") 521, Value.str (Str.ofString "held") 522, Value.str (Str.ofString "found") 523, Value.str (Str.ofString "left") 524, Value.str (Str.ofString "point") 525] }), 
 (258, { cls := Value.type "tuple", data := Data.seq #[] }), 
 (260, { cls := Value.type "code", data := Data.fields #[Value.str (Str.ofString "_law_followed") 517, Value.str (Str.ofString "_law_followed") 518, Value.str (Str.ofString "/claim/cut.py") 519, Value.int 182 0, Value.int 3 0, Value.int 0 0, Value.int 0 0, Value.int 3 0, Value.ref 255, Value.bool true, Value.int 181 0, Value.ref 256, Value.none, Value.ref 257, Value.ref 258, Value.ref 259, Value.int 526 0, Value.int 182 0, Value.str (Str.ofString "/claim/cut.py") 527] }), 
 (261, { cls := Value.type "function", data := Data.func { name := Str.ofString "_law_followed", qualname := Str.ofString "_law_followed", params := Mine.F32.1, body := FuncBody.stmts Mine.F32.2.1, scope := Mine.F32.2.2, globals := 3, closure := [], defaults := Value.none, kwdefaults := Value.none, pyModule := Value.str (Str.ofString "law_xm0588_01") 407, code := Value.ref 260 } }), 
 (262, { cls := Value.type "tuple", data := Data.seq #[] }), 
 (265, { cls := Value.type "code", data := Data.fields #[Value.str (Str.ofString "_law_scopes_right") 529, Value.str (Str.ofString "_law_scopes_right") 530, Value.str (Str.ofString "/claim/cut.py") 531, Value.int 191 0, Value.int 1 0, Value.int 0 0, Value.int 0 0, Value.int 3 0, Value.ref 262, Value.bool true, Value.int 181 0, Value.ref 263, Value.none, Value.none, Value.none, Value.ref 264, Value.int 532 0, Value.int 191 0, Value.str (Str.ofString "/claim/cut.py") 533] }), 
 (266, { cls := Value.type "function", data := Data.func { name := Str.ofString "_law_scopes_right", qualname := Str.ofString "_law_scopes_right", params := Mine.F33.1, body := FuncBody.stmts Mine.F33.2.1, scope := Mine.F33.2.2, globals := 3, closure := [], defaults := Value.none, kwdefaults := Value.none, pyModule := Value.str (Str.ofString "law_xm0588_01") 407, code := Value.ref 265 } }), 
 (267, { cls := Value.type "tuple", data := Data.seq #[] }), 
 (269, { cls := Value.type "tuple", data := Data.seq #[Value.str (Str.ofString "script") 538, Value.str (Str.ofString "source") 539] }), 
 (270, { cls := Value.type "tuple", data := Data.seq #[] }), 
 (272, { cls := Value.type "code", data := Data.fields #[Value.str (Str.ofString "law") 535, Value.str (Str.ofString "law") 536, Value.str (Str.ofString "/claim/cut.py") 537, Value.int 229 0, Value.int 1 0, Value.int 0 0, Value.int 0 0, Value.int 3 0, Value.ref 267, Value.bool true, Value.int 181 0, Value.ref 268, Value.none, Value.ref 269, Value.ref 270, Value.ref 271, Value.int 540 0, Value.int 229 0, Value.str (Str.ofString "/claim/cut.py") 541] }), 
 (273, { cls := Value.type "function", data := Data.func { name := Str.ofString "law", qualname := Str.ofString "law", params := Mine.F34.1, body := FuncBody.stmts Mine.F34.2.1, scope := Mine.F34.2.2, globals := 3, closure := [], defaults := Value.none, kwdefaults := Value.none, pyModule := Value.str (Str.ofString "law_xm0588_01") 407, code := Value.ref 272 } })] 
noncomputable abbrev Mine.hook : Hook := kHook Mine.heapT [2, 3, 15, 17, 18, 20, 21, 22, 24, 25, 27, 28, 29, 31, 32, 34, 35, 36, 38, 39, 41, 42, 43, 46, 47, 48, 51, 52, 60, 62, 63, 65, 66, 67, 70, 71, 72, 75, 76, 77, 79, 80, 82, 83, 84, 86, 87, 89, 90, 91, 93, 94, 96, 97, 98, 99, 100, 101, 102, 112, 113, 115, 116, 118, 119, 120, 122, 123, 125, 126, 127, 129, 130, 132, 133, 134, 136, 137, 139, 140, 141, 143, 144, 146, 147, 148, 150, 151, 153, 154, 155, 156, 158, 159, 161, 162, 163, 164, 165, 166, 167, 170, 172, 173, 175, 176, 177, 179, 180, 182, 183, 184, 186, 187, 189, 190, 191, 193, 194, 196, 197, 198, 200, 201, 203, 204, 205, 208, 209, 210, 212, 213, 215, 216, 217, 219, 220, 222, 223, 224, 226, 227, 229, 230, 231, 234, 235, 236, 238, 239, 241, 242, 243, 246, 247, 248, 250, 251, 253, 254, 255, 257, 258, 260, 261, 262, 265, 266, 267, 269, 270, 272, 273] (fun _ => by kernel_rfl)
theorem Mine.said : Challenge.rw_xm0588_01.wellSaid = true := by
  delta OpenLaw.wellSaid
  repeat' (with_reducible refine look_both ?_ ?_)
  all_goals try (delta OpenRow.wellSaid)
  all_goals repeat' (with_reducible refine look_both ?_ ?_)
  all_goals try (delta OpenRow.partSaid)
  all_goals repeat' (with_reducible refine look_both ?_ ?_)
  all_goals try (delta looksOpen)
  all_goals repeat' (with_reducible refine look_both ?_ ?_)
  all_goals decide +kernel

noncomputable section
open PySem PySem.W PyProof.Rows
set_option maxHeartbeats 1000000
namespace Mine

/-- what is fixed of a run: the program, the world, the heap at the law's call -/
structure Cx where
  prog : Program
  w : World
  base : Heap
  mg : Str → Option Value
  mb : Str → Option Value
  kin : (heapT w.params).In base
  ng : base.Ns mainGlobals mg
  nb : base.Ns builtinsNs mb
  lim : base.NoLimit
  hb : ∀ x : Str, x ≠ "__name__" → mb x = bootBuiltins x

abbrev Cx.M (X : Cx) : Model := model X.prog X.w
noncomputable abbrev Cx.K (X : Cx) : Frag := heapT X.w.params
/-- do sets follow a drawn order in this world -/
noncomputable def Cx.bt (X : Cx) : Bool := X.w.params.followText "set-order"

/-- plain data, as the law's objects tell them -/
inductive D where
  | none | bool (b : Bool) | int (i : Int) | str (s : Str)
  | tup (ds : List D) | lst (ds : List D)
  | fset (xs : List Int)
  | sset (ks : List Nat)
  | idict (ks : List Int) (ds : List D)
  | tdict (ks : List (List Int)) (ds : List D)
  | ns (names : List Str) (ds : List D)
  | inst (C dx : Addr)
  | obj (C : Addr) (names : List Str) (ds : List D)
  | raw (v : Value)
  | rng (n : Int)
deriving Inhabited

abbrev ZMap := Addr → Option Obj
abbrev Hp := Addr → Option D
abbrev Sto := Str → Option D

/-- the entries of a small set -/
noncomputable def esOf (tok : Nat → Tok) (ks : List Nat) : Array (Int × Value) := (ks.map fun n : Nat => ((n : Int), Value.int n (tok n))).toArray
noncomputable def subs3 : List (List Nat) := [[], [0], [1], [2], [0, 1], [0, 2], [1, 2], [0, 1, 2]]
/-- a small set of loans: the numbers 0, 1, 2 at their own places -/
structure Small (bt : Bool) (es : Array (Int × Value)) (t : SetTable) (ks : List Nat) : Prop where
  els : ∃ tok, es = esOf tok ks
  tab : ∃ mask finger moves, t = ⟨mask, ks.toArray, #[], finger, !bt, moves, true⟩ ∧ (mask = 7 ∨ mask = 15)
  sub : ks ∈ subs3

structure SetOk (X : Cx) (es : Array (Int × Value)) (t : SetTable) (xs : List Int) : Prop where
  elems : ElemsOf (intKind X.prog X.w) es.toList
  mem : ∀ i, i ∈ xs ↔ ∃ e ∈ es.toList, (intKind X.prog X.w).is i e.2 = true
  bound : es.size ≤ 1000
  fits : t.fits es.size = true

inductive TupZ (X : Cx) (Z : ZMap) (ks : List Int) (a : Addr) : Prop
  | mk (o : Obj) (items : Array Value) (n : Nat) (e : Z a = some o) (c : o.cls = .type "tuple") (d : o.data = .seq items n) (i : ItemsAre (intKind X.prog X.w) ks items.toList)

/-- the entries of an object's dict -/
inductive NamesAre : List DictEntry → List Str → Prop
  | nil : NamesAre [] []
  | cons {e : DictEntry} {n : Str} {t : Tok} {es ns} : e.key = .str n t → NamesAre es ns → NamesAre (e :: es) (n :: ns)

mutual
inductive Rep (X : Cx) (Z : ZMap) : Value → D → Prop
  | none : Rep X Z .none .none
  | bool (b : Bool) : Rep X Z (.bool b) (.bool b)
  | int (i : Int) (t : Tok) : Rep X Z (.int i t) (.int i)
  | str (s : Str) (t : Tok) : Rep X Z (.str s t) (.str s)
  | raw (v : Value) : Rep X Z v (.raw v)
  | inst {a C dx : Addr} : Z a = some (instObj C dx) → Rep X Z (.ref a) (.inst C dx)
  | obj {a C dx : Addr} {o : Obj} {names : List Str} {ds : List D} : Z a = some (instObj C dx) → Z dx = some o → ORep X Z o (.ns names ds) → Rep X Z (.ref a) (.obj C names ds)
  | cont {a : Addr} {o : Obj} {d : D} : Z a = some o → ORep X Z o d → Rep X Z (.ref a) d
inductive ORep (X : Cx) (Z : ZMap) : Obj → D → Prop
  | tup {o : Obj} {vs : Array Value} {ep : Nat} {ds : List D} : o.cls = .type "tuple" → o.data = .seq vs ep → Reps X Z vs.toList ds → ORep X Z o (.tup ds)
  | lst {o : Obj} {vs : Array Value} {ep : Nat} {ds : List D} : o = { cls := .type "list", data := .seq vs ep } → Reps X Z vs.toList ds → ORep X Z o (.lst ds)
  | fset {o : Obj} {es : Array (Int × Value)} {ep : Nat} {t : SetTable} {xs : List Int} : o = { cls := .type "frozenset", data := .set es ep t } → SetOk X es t xs → ORep X Z o (.fset xs)
  | sset {o : Obj} {es : Array (Int × Value)} {ep : Nat} {t : SetTable} {ks : List Nat} : o = { cls := .type "frozenset", data := .set es ep t } → Small X.bt es t ks → ORep X Z o (.sset ks)
  | rng {o : Obj} {n : Int} {t u v : Tok} : o = { cls := .type "range", data := .fields #[.int 0 t, .int n u, .int 1 v] } → ORep X Z o (.rng n)
  | idict {o : Obj} {es : Array DictEntry} {ep : Nat} {kvs : List (Int × Value)} {ks : List Int} {ds : List D} : o.ExactDict → o.data = .dict es ep → KeysOf (intKind X.prog X.w) es →
      Pairs (intKind X.prog X.w) es.toList kvs → (kvs.map (·.1)).Nodup → kvs.map (·.1) = ks → Reps X Z (kvs.map (·.2)) ds → ORep X Z o (.idict ks ds)
  | tdict {o : Obj} {es : Array DictEntry} {ep : Nat} {xs : List (List Int × Addr × Value)} {ks : List (List Int)} {ds : List D} : o.ExactDict → o.data = .dict es ep →
      es.toList = xs.map (entryOfKey (tupleKind (intKind X.prog X.w))) → (∀ x ∈ xs, TupZ X Z x.1 x.2.1) → (xs.map (·.1)).Nodup → xs.map (·.1) = ks → Reps X Z (xs.map (·.2.2)) ds → ORep X Z o (.tdict ks ds)
  | ns {es : List DictEntry} {n : Nat} {names : List Str} {ds : List D} : NamesAre es names → Reps X Z (es.map (·.val)) ds → ORep X Z (dictOf es n) (.ns names ds)
inductive Reps (X : Cx) (Z : ZMap) : List Value → List D → Prop
  | nil : Reps X Z [] []
  | cons {v : Value} {d : D} {vs : List Value} {ds : List D} : Rep X Z v d → Reps X Z vs ds → Reps X Z (v :: vs) (d :: ds)
end

noncomputable def ZLe (Z Z' : ZMap) : Prop := ∀ a o, Z a = some o → Z' a = some o
theorem ZLe.refl (Z : ZMap) : ZLe Z Z := fun _ _ e => e
theorem ZLe.trans {Z Z' Z'' : ZMap} (x : ZLe Z Z') (y : ZLe Z' Z'') : ZLe Z Z'' := fun a o e => y a o (x a o e)
theorem TupZ.mono {X : Cx} {Z Z' : ZMap} {ks a} (x : TupZ X Z ks a) (h : ZLe Z Z') : TupZ X Z' ks a := by
  obtain ⟨o, items, n, e, r, s, q⟩ := x
  exact ⟨o, items, n, h _ _ e, r, s, q⟩

theorem Rep.mono {X : Cx} {Z Z' : ZMap} (h : ZLe Z Z') {v : Value} {d : D} (r : Rep X Z v d) : Rep X Z' v d :=
  Rep.rec (motive_1 := fun v d _ => Rep X Z' v d) (motive_2 := fun o d _ => ORep X Z' o d) (motive_3 := fun vs ds _ => Reps X Z' vs ds)
    .none .bool .int .str .raw (fun e => .inst (h _ _ e)) (fun e f _ r => .obj (h _ _ e) (h _ _ f) r) (fun e _ r => .cont (h _ _ e) r)
    (fun a b _ r => .tup a b r) (fun a _ r => .lst a r) .fset .sset .rng (fun a b c d e f _ r => .idict a b c d e f r) (fun a b c d e f _ r => .tdict a b c (fun x hx => (d x hx).mono h) e f r) (fun a _ r => .ns a r) .nil (fun _ _ a r => .cons a r) r
theorem ORep.mono {X : Cx} {Z Z' : ZMap} (h : ZLe Z Z') {o : Obj} {d : D} (r : ORep X Z o d) : ORep X Z' o d :=
  ORep.rec (motive_1 := fun v d _ => Rep X Z' v d) (motive_2 := fun o d _ => ORep X Z' o d) (motive_3 := fun vs ds _ => Reps X Z' vs ds)
    .none .bool .int .str .raw (fun e => .inst (h _ _ e)) (fun e f _ r => .obj (h _ _ e) (h _ _ f) r) (fun e _ r => .cont (h _ _ e) r)
    (fun a b _ r => .tup a b r) (fun a _ r => .lst a r) .fset .sset .rng (fun a b c d e f _ r => .idict a b c d e f r) (fun a b c d e f _ r => .tdict a b c (fun x hx => (d x hx).mono h) e f r) (fun a _ r => .ns a r) .nil (fun _ _ a r => .cons a r) r
theorem Reps.mono {X : Cx} {Z Z' : ZMap} (h : ZLe Z Z') {vs : List Value} {ds : List D} (r : Reps X Z vs ds) : Reps X Z' vs ds :=
  Reps.rec (motive_1 := fun v d _ => Rep X Z' v d) (motive_2 := fun o d _ => ORep X Z' o d) (motive_3 := fun vs ds _ => Reps X Z' vs ds)
    .none .bool .int .str .raw (fun e => .inst (h _ _ e)) (fun e f _ r => .obj (h _ _ e) (h _ _ f) r) (fun e _ r => .cont (h _ _ e) r)
    (fun a b _ r => .tup a b r) (fun a _ r => .lst a r) .fset .sset .rng (fun a b c d e f _ r => .idict a b c d e f r) (fun a b c d e f _ r => .tdict a b c (fun x hx => (d x hx).mono h) e f r) (fun a _ r => .ns a r) .nil (fun _ _ a r => .cons a r) r

theorem Reps.cons_inv {X : Cx} {Z : ZMap} {vs : List Value} {d : D} {ds : List D} (r : Reps X Z vs (d :: ds)) : ∃ v vs', vs = v :: vs' ∧ Rep X Z v d ∧ Reps X Z vs' ds := by
  cases r with | cons a r => exact ⟨_, _, rfl, a, r⟩
theorem Reps.nil_inv {X : Cx} {Z : ZMap} {vs : List Value} (r : Reps X Z vs []) : vs = [] := by cases r; rfl
theorem Reps.one {X : Cx} {Z : ZMap} {vs : List Value} {d : D} (r : Reps X Z vs [d]) : ∃ v, vs = [v] ∧ Rep X Z v d := by
  obtain ⟨v, vs, rfl, a, r⟩ := r.cons_inv
  rw [r.nil_inv]; exact ⟨v, rfl, a⟩
theorem Reps.two {X : Cx} {Z : ZMap} {vs : List Value} {d e : D} (r : Reps X Z vs [d, e]) : ∃ v u, vs = [v, u] ∧ Rep X Z v d ∧ Rep X Z u e := by
  obtain ⟨v, vs, rfl, a, r⟩ := r.cons_inv
  obtain ⟨u, rfl, b⟩ := r.one
  exact ⟨v, u, rfl, a, b⟩
theorem Reps.length {X : Cx} {Z : ZMap} {vs : List Value} {ds : List D} (r : Reps X Z vs ds) : vs.length = ds.length := by
  induction ds generalizing vs with
  | nil => rw [r.nil_inv]; rfl
  | cons d ds ih => obtain ⟨v, vs, rfl, _, r⟩ := r.cons_inv; exact congrArg (· + 1) (ih r)
theorem Reps.get {X : Cx} {Z : ZMap} {vs : List Value} {ds : List D} {i : Nat} {d : D} (r : Reps X Z vs ds) (h : ds[i]? = some d) : ∃ v, vs[i]? = some v ∧ Rep X Z v d := by
  induction ds generalizing vs i with
  | nil => cases h
  | cons e ds ih =>
    obtain ⟨v, vs, rfl, a, r⟩ := r.cons_inv
    cases i with
    | zero => cases h; exact ⟨_, rfl, a⟩
    | succ i => have k := ih r h; exact k
theorem Reps.getV {X : Cx} {Z : ZMap} {vs : List Value} {ds : List D} {i : Nat} {v : Value} (r : Reps X Z vs ds) (h : vs[i]? = some v) : ∃ d, ds[i]? = some d ∧ Rep X Z v d := by
  induction ds generalizing vs i with
  | nil => rw [r.nil_inv] at h; cases h
  | cons e ds ih =>
    obtain ⟨v, vs, rfl, a, r⟩ := r.cons_inv
    cases i with
    | zero => cases h; exact ⟨_, rfl, a⟩
    | succ i => have k := ih r h; exact k
theorem Reps.append {X : Cx} {Z : ZMap} {vs ws : List Value} {ds es : List D} (r : Reps X Z vs ds) (h : Reps X Z ws es) : Reps X Z (vs ++ ws) (ds ++ es) := by
  induction ds generalizing vs with
  | nil => rw [r.nil_inv]; exact h
  | cons d ds ih => obtain ⟨v, vs, rfl, a, r⟩ := r.cons_inv; exact .cons a (ih r)
theorem Reps.set {X : Cx} {Z : ZMap} {v : Value} {d : D} (hv : Rep X Z v d) {vs : List Value} {ds : List D} {i : Nat} (r : Reps X Z vs ds) : Reps X Z (vs.set i v) (ds.set i d) := by
  induction ds generalizing vs i with
  | nil => rw [r.nil_inv]; exact .nil
  | cons e ds ih =>
    obtain ⟨u, vs, rfl, a, r⟩ := r.cons_inv
    cases i with
    | zero => exact .cons hv r
    | succ i => exact .cons a (ih r)
theorem Reps.take {X : Cx} {Z : ZMap} {vs : List Value} {ds : List D} {i : Nat} (r : Reps X Z vs ds) : Reps X Z (vs.take i) (ds.take i) := by
  induction ds generalizing vs i with
  | nil => rw [r.nil_inv, List.take_nil, List.take_nil]; exact .nil
  | cons e ds ih =>
    obtain ⟨u, vs, rfl, a, r⟩ := r.cons_inv
    cases i with
    | zero => exact .nil
    | succ i => exact .cons a (ih r)
theorem Reps.dropLast {X : Cx} {Z : ZMap} {vs : List Value} {ds : List D} (h : Reps X Z vs ds) : Reps X Z vs.dropLast ds.dropLast := by
  rw [List.dropLast_eq_take, List.dropLast_eq_take, h.length]; exact h.take

/-- the state tells what Z (frozen) and H (may turn) say -/
structure Ok (X : Cx) (s : Shared) (Z : ZMap) (H : Hp) : Prop where
  base : ∀ b o, X.base.get? b = some o → s.heap.get? b = some o
  z : ∀ a o, Z a = some o → s.heap.get? a = some o
  h : ∀ a d, H a = some d → ∃ o, s.heap.get? a = some o ∧ ORep X Z o d
  sep : ∀ a, H a ≠ none → Z a = none ∧ X.base.get? a = none
  low : ∀ a, Z a ≠ none ∨ H a ≠ none → sysModules < a
theorem Ok.big {X : Cx} {s : Shared} {Z : ZMap} {H : Hp} (x : Ok X s Z H) : sysModules < s.heap.objs.size := modules_low (X.lim.keeps x.base)

/-- how a run may turn the state: what H names and O names may turn, the rest stays -/
structure Ev (s : Shared) (Z : ZMap) (H : Hp) (O : Addr → Prop) (s' : Shared) (Z' : ZMap) (H' : Hp) : Prop where
  same : ∃ h tk, s' = { s with heap := h, toks := tk }
  keep : ∀ a o, s.heap.get? a = some o → H a = none → ¬ O a → s'.heap.get? a = some o
  grow : ∀ a, s'.heap.get? a = none → s.heap.get? a = none
  zle : ZLe Z Z'
  znew : ∀ a, Z a = none → H a = none → s.heap.get? a ≠ none → Z' a = none
  hnew : ∀ a, H a = none → s.heap.get? a ≠ none → H' a = none

abbrev nil : Addr → Prop := fun _ => False

theorem Ev.refl {s : Shared} {Z : ZMap} {H : Hp} {O : Addr → Prop} : Ev s Z H O s Z H :=
  ⟨⟨_, _, rfl⟩, fun _ _ e _ _ => e, fun _ e => e, .refl _, fun _ e _ _ => e, fun _ e _ => e⟩
theorem Ev.trans {s s' s'' : Shared} {Z Z' Z'' : ZMap} {H H' H'' : Hp} {O : Addr → Prop} (x : Ev s Z H O s' Z' H') (y : Ev s' Z' H' O s'' Z'' H'') : Ev s Z H O s'' Z'' H'' where
  same := by obtain ⟨h, tk, rfl⟩ := x.same; obtain ⟨h', tk', rfl⟩ := y.same; exact ⟨_, _, rfl⟩
  keep := fun a o e hh ho => y.keep a o (x.keep a o e hh ho) (x.hnew a hh (by rw [e]; simp)) ho
  grow := fun a e => x.grow a (y.grow a e)
  zle := x.zle.trans y.zle
  znew := fun a hz hh e => y.znew a (x.znew a hz hh e) (x.hnew a hh e) (fun q => e (x.grow a q))
  hnew := fun a hh e => y.hnew a (x.hnew a hh e) (fun q => e (x.grow a q))
theorem Ev.wide {s s' : Shared} {Z Z' : ZMap} {H H' : Hp} {O O' : Addr → Prop} (x : Ev s Z H O s' Z' H') (h : ∀ a, O a → O' a) : Ev s Z H O' s' Z' H' :=
  ⟨x.same, fun a o e hh ho => x.keep a o e hh fun q => ho (h a q), x.grow, x.zle, x.znew, x.hnew⟩
theorem Ev.any {s s' : Shared} {Z Z' : ZMap} {H H' : Hp} {O : Addr → Prop} (x : Ev s Z H nil s' Z' H') : Ev s Z H O s' Z' H' := x.wide fun _ q => q.elim

/-- only tokens were drawn -/
theorem Ev.tok {s : Shared} {Z : ZMap} {H : Hp} {O : Addr → Prop} (tk : Nat) : Ev s Z H O { s with toks := tk } Z H :=
  ⟨⟨_, _, rfl⟩, fun _ _ e _ _ => e, fun _ e => e, .refl _, fun _ e _ _ => e, fun _ e _ => e⟩
theorem Ok.tok {X : Cx} {s : Shared} {Z : ZMap} {H : Hp} (x : Ok X s Z H) (tk : Nat) : Ok X { s with toks := tk } Z H := ⟨x.base, x.z, x.h, x.sep, x.low⟩

/-- a heap that grew, nothing turned -/
theorem Ok.keeps {X : Cx} {s : Shared} {Z : ZMap} {H : Hp} (x : Ok X s Z H) {h' : Heap} {tk : Nat} (k : ∀ b o, s.heap.get? b = some o → h'.get? b = some o) : Ok X { s with heap := h', toks := tk } Z H :=
  ⟨fun b o e => k b o (x.base b o e), fun a o e => k a o (x.z a o e), fun a d e => let ⟨o, ho, r⟩ := x.h a d e; ⟨o, k a o ho, r⟩, x.sep, x.low⟩
theorem Ev.keeps {s : Shared} {Z : ZMap} {H : Hp} {O : Addr → Prop} {h' : Heap} {tk : Nat} (k : ∀ b o, s.heap.get? b = some o → h'.get? b = some o) : Ev s Z H O { s with heap := h', toks := tk } Z H :=
  ⟨⟨_, _, rfl⟩, fun a o e _ _ => k a o e, fun a e => (by
    cases q : s.heap.get? a with
    | none => rfl
    | some o => have := k a o q; rw [show ({ s with heap := h', toks := tk } : Shared).heap.get? a = h'.get? a from rfl, this] at e; cases e), .refl _, fun _ e _ _ => e, fun _ e _ => e⟩

noncomputable def zput (Z : ZMap) (a : Addr) (o : Obj) : ZMap := fun b => if b = a then some o else Z b
noncomputable def hput (H : Hp) (a : Addr) (d : D) : Hp := fun b => if b = a then some d else H b
noncomputable def hdel (H : Hp) (a : Addr) : Hp := fun b => if b = a then none else H b
theorem zput_le {Z : ZMap} {a : Addr} {o : Obj} (h : Z a = none) : ZLe Z (zput Z a o) := fun b o' e => by
  unfold zput; split
  · rename_i q; subst q; rw [h] at e; cases e
  · exact e
theorem zput_self {Z : ZMap} {a : Addr} {o : Obj} : zput Z a o a = some o := by simp [zput]
theorem hput_self {H : Hp} {a : Addr} {d : D} : hput H a d a = some d := by simp [hput]
theorem hput_ne {H : Hp} {a b : Addr} {d : D} (h : b ≠ a) : hput H a d b = H b := by simp [hput, h]
theorem hdel_ne {H : Hp} {a b : Addr} (h : b ≠ a) : hdel H a b = H b := by simp [hdel, h]
theorem hdel_self {H : Hp} {a : Addr} : hdel H a a = none := by simp [hdel]

/-- a new object, frozen at once -/
theorem Ok.newZ {X : Cx} {s : Shared} {Z : ZMap} {H : Hp} (x : Ok X s Z H) {h' : Heap} {tk : Nat} {a : Addr} {o : Obj} (k : ∀ b o, s.heap.get? b = some o → h'.get? b = some o)
    (hn : s.heap.get? a = none) (hl : sysModules < a) (ho : h'.get? a = some o) : Ok X { s with heap := h', toks := tk } (zput Z a o) H := by
  have hz : Z a = none := by cases q : Z a with | none => rfl | some o' => rw [x.z a o' q] at hn; cases hn
  refine ⟨fun b o' e => k b o' (x.base b o' e), fun b o' e => ?_, fun b d e => let ⟨o', ho', r⟩ := x.h b d e; ⟨o', k b o' ho', r.mono (zput_le hz)⟩, fun b hb => ⟨?_, (x.sep b hb).2⟩, fun b hb => ?_⟩
  · unfold zput at e; split at e
    · rename_i q; subst q; cases e; exact ho
    · exact k b o' (x.z b o' e)
  · unfold zput; split
    · rename_i q; subst q
      exfalso
      cases q : H b with
      | none => exact hb q
      | some d => obtain ⟨o', ho', _⟩ := x.h b d q; rw [ho'] at hn; cases hn
    · exact (x.sep b hb).1
  · by_cases q : b = a
    · subst q; exact hl
    · unfold zput at hb; rw [if_neg q] at hb; exact x.low b hb
theorem Ev.newZ {X : Cx} {s : Shared} {Z : ZMap} {H : Hp} {O : Addr → Prop} (x : Ok X s Z H) {h' : Heap} {tk : Nat} {a : Addr} {o : Obj} (k : ∀ b o, s.heap.get? b = some o → h'.get? b = some o)
    (hn : s.heap.get? a = none) : Ev s Z H O { s with heap := h', toks := tk } (zput Z a o) H := by
  have hz : Z a = none := by cases q : Z a with | none => rfl | some o' => rw [x.z a o' q] at hn; cases hn
  have e := Ev.keeps (Z := Z) (H := H) (O := O) (tk := tk) k
  exact ⟨e.same, e.keep, e.grow, zput_le hz, fun b h1 _ h3 => by unfold zput; split; (rename_i q; subst q; exact absurd hn h3); exact h1, e.hnew⟩
/-- a new object that may turn -/
theorem Ok.newH {X : Cx} {s : Shared} {Z : ZMap} {H : Hp} (x : Ok X s Z H) {h' : Heap} {tk : Nat} {a : Addr} {o : Obj} {d : D} (k : ∀ b o, s.heap.get? b = some o → h'.get? b = some o)
    (hn : s.heap.get? a = none) (hl : sysModules < a) (ho : h'.get? a = some o) (r : ORep X Z o d) : Ok X { s with heap := h', toks := tk } Z (hput H a d) := by
  refine ⟨fun b o' e => k b o' (x.base b o' e), fun b o' e => k b o' (x.z b o' e), fun b d' e => ?_, fun b hb => ?_, fun b hb => ?_⟩
  · unfold hput at e; split at e
    · rename_i q; subst q; cases e; exact ⟨o, ho, r⟩
    · obtain ⟨o', ho', r'⟩ := x.h b d' e; exact ⟨o', k b o' ho', r'⟩
  · by_cases q : b = a
    · subst q
      refine ⟨?_, ?_⟩
      · cases q : Z b with | none => rfl | some o' => rw [x.z b o' q] at hn; cases hn
      · cases q : X.base.get? b with | none => rfl | some o' => rw [x.base b o' q] at hn; cases hn
    · rw [hput_ne q] at hb; exact x.sep b hb
  · by_cases q : b = a
    · subst q; exact hl
    · rw [hput_ne q] at hb; exact x.low b hb
theorem Ev.newH {s : Shared} {Z : ZMap} {H : Hp} {O : Addr → Prop} {h' : Heap} {tk : Nat} {a : Addr} {d : D} (k : ∀ b o, s.heap.get? b = some o → h'.get? b = some o)
    (hn : s.heap.get? a = none) : Ev s Z H O { s with heap := h', toks := tk } Z (hput H a d) := by
  have e := Ev.keeps (Z := Z) (H := H) (O := O) (tk := tk) k
  exact ⟨e.same, e.keep, e.grow, e.zle, e.znew, fun b h1 h2 => by unfold hput; split; (rename_i q; subst q; exact absurd hn h2); exact h1⟩
/-- an object that may turn has turned -/
theorem Ok.setH {X : Cx} {s : Shared} {Z : ZMap} {H : Hp} (x : Ok X s Z H) {h' : Heap} {tk : Nat} {a : Addr} {o : Obj} {d d₀ : D} (k : Heap.SameBut a s.heap h')
    (hn : H a = some d₀) (ho : h'.get? a = some o) (r : ORep X Z o d) : Ok X { s with heap := h', toks := tk } Z (hput H a d) := by
  have hs := x.sep a (by rw [hn]; simp)
  have nz : ∀ b o', Z b = some o' → b ≠ a := fun b o' e q => by rw [q, hs.1] at e; cases e
  have nb : ∀ b o', X.base.get? b = some o' → b ≠ a := fun b o' e q => by rw [q, hs.2] at e; cases e
  refine ⟨fun b o' e => (k.2 b (nb b o' e)).trans (x.base b o' e), fun b o' e => (k.2 b (nz b o' e)).trans (x.z b o' e), fun b d' e => ?_, fun b hb => ?_, fun b hb => ?_⟩
  · unfold hput at e; split at e
    · rename_i q; subst q; cases e; exact ⟨o, ho, r⟩
    · rename_i q; obtain ⟨o', ho', r'⟩ := x.h b d' e; exact ⟨o', (k.2 b q).trans ho', r'⟩
  · by_cases q : b = a
    · subst q; exact hs
    · rw [hput_ne q] at hb; exact x.sep b hb
  · by_cases q : b = a
    · subst q; exact x.low b (.inr (by rw [hn]; simp))
    · rw [hput_ne q] at hb; exact x.low b hb
theorem Ev.setH {s : Shared} {Z : ZMap} {H : Hp} {O : Addr → Prop} {h' : Heap} {tk : Nat} {a : Addr} {o : Obj} {d d₀ : D} (k : Heap.SameBut a s.heap h')
    (hn : H a = some d₀) (ho : h'.get? a = some o) : Ev s Z H O { s with heap := h', toks := tk } Z (hput H a d) := by
  refine ⟨⟨_, _, rfl⟩, fun b o' e hh _ => ?_, fun b e => ?_, .refl _, fun _ e _ _ => e, fun b h1 _ => ?_⟩
  · exact (k.2 b (by rintro rfl; rw [hn] at hh; cases hh)).trans e
  · by_cases q : b = a
    · subst q; rw [show ({ s with heap := h', toks := tk } : Shared).heap.get? b = h'.get? b from rfl, ho] at e; cases e
    · rw [← k.2 b q]; exact e
  · rw [hput_ne (by rintro rfl; rw [hn] at h1; cases h1)]; exact h1

/-- an object that may turn is frozen -/
inductive Frz (X : Cx) (s : Shared) (Z : ZMap) (H : Hp) (a : Addr) (d : D) : Prop
  | mk (o : Obj) (ho : s.heap.get? a = some o) (r : ORep X Z o d) (hz : Z a = none) (ok : Ok X s (zput Z a o) (hdel H a))
theorem Ok.freeze {X : Cx} {s : Shared} {Z : ZMap} {H : Hp} (x : Ok X s Z H) {a : Addr} {d : D} (hn : H a = some d) : Frz X s Z H a d := by
  obtain ⟨o, ho, r⟩ := x.h a d hn
  have hs := x.sep a (by rw [hn]; simp)
  refine ⟨o, ho, r, hs.1, x.base, fun b o' e => ?_, fun b d' e => ?_, fun b hb => ?_, fun b hb => ?_⟩
  · unfold zput at e; split at e
    · rename_i q; subst q; cases e; exact ho
    · exact x.z b o' e
  · unfold hdel at e; split at e
    · cases e
    · obtain ⟨o', ho', r'⟩ := x.h b d' e; exact ⟨o', ho', r'.mono (zput_le hs.1)⟩
  · unfold hdel at hb; split at hb
    · exact absurd rfl hb
    · rename_i q; have := x.sep b hb; exact ⟨by unfold zput; rw [if_neg q]; exact this.1, this.2⟩
  · by_cases q : b = a
    · subst q; exact x.low b (.inr (by rw [hn]; simp))
    · unfold zput hdel at hb; rw [if_neg q, if_neg q] at hb; exact x.low b hb
theorem Ev.freeze {s : Shared} {Z : ZMap} {H : Hp} {O : Addr → Prop} {a : Addr} {d : D} {o : Obj} (hn : H a = some d) (hz : Z a = none) : Ev s Z H O s (zput Z a o) (hdel H a) := by
  refine ⟨⟨_, _, rfl⟩, fun _ _ e _ _ => e, fun _ e => e, zput_le hz, fun b h1 h2 _ => ?_, fun b h1 _ => ?_⟩
  · unfold zput; split
    · rename_i q; subst q; rw [hn] at h2; cases h2
    · exact h1
  · unfold hdel; split
    · rfl
    · exact h1
/-- what H says may be forgotten -/
theorem Ok.forget {X : Cx} {s : Shared} {Z : ZMap} {H H' : Hp} (x : Ok X s Z H) (h : ∀ a d, H' a = some d → H a = some d) : Ok X s Z H' :=
  ⟨x.base, x.z, fun a d e => x.h a d (h a d e), fun a hb => x.sep a fun q => by
    cases e : H' a with
    | none => exact hb e
    | some d => (rw [h a d e] at q; cases q), fun a hb => x.low a (Or.imp id (fun (hb : H' a ≠ none) (q : H a = none) => (by
    cases e : H' a with
    | none => exact hb e
    | some d => (rw [h a d e] at q; cases q))) hb)⟩
theorem Ev.forget {s s' : Shared} {Z Z' : ZMap} {H H' H'' : Hp} {O : Addr → Prop} (x : Ev s Z H O s' Z' H') (h : ∀ a d, H'' a = some d → H' a = some d) : Ev s Z H O s' Z' H'' :=
  ⟨x.same, x.keep, x.grow, x.zle, x.znew, fun a h1 h2 => by
    cases e : H'' a with
    | none => rfl
    | some d => have := h a d e; rw [x.hnew a h1 h2] at this; cases this⟩

end Mine

end

noncomputable section
open PySem PySem.W PySem.Calls PyProof.Rows
set_option maxHeartbeats 1000000
namespace Mine

inductive Fl where
  | next | brk | cont | ret (d : D)

inductive FlRep (X : Cx) (Z : ZMap) : Flow → Fl → Prop
  | next : FlRep X Z .next .next
  | brk : FlRep X Z .brk .brk
  | cont : FlRep X Z .cont .cont
  | ret {v : Value} {d : D} : Rep X Z v d → FlRep X Z (.ret v) (.ret d)

/-- what a name holds; of a name that σ does not tell nothing is known -/
inductive OptRep (X : Cx) (Z : ZMap) : Option Value → Option D → Prop
  | none {v : Option Value} : OptRep X Z v none
  | some {v : Value} {d : D} : Rep X Z v d → OptRep X Z (some v) (some d)
theorem OptRep.mono {X : Cx} {Z Z' : ZMap} (h : ZLe Z Z') {v : Option Value} {d : Option D} : OptRep X Z v d → OptRep X Z' v d
  | .none => .none
  | .some r => .some (r.mono h)

structure EnvOk (env : Env) : Prop where
  kind : env.scope.kind = .function
  glob : env.globals = mainGlobals
  blt : env.builtins = builtinsNs
  inj : ∀ x y c, env.cells.lookup x = some c → env.cells.lookup y = some c → x = y
  apart : ∀ x c, env.cells.lookup x = some c → c ≠ env.locals

noncomputable def ownA (env : Env) (a : Addr) : Prop := a = env.locals ∨ ∃ x, env.cells.lookup x = some a

structure Inv (X : Cx) (s : Shared) (Z : ZMap) (H : Hp) (env : Env) (σ : Sto) : Prop where
  ok : Ok X s Z H
  eok : EnvOk env
  loc : ∃ m, s.heap.Ns env.locals m ∧ ∀ x, env.kindOf x = some .local → OptRep X Z (m x) (σ x)
  cel : ∀ x c, env.cells.lookup x = some c → ∃ ov, s.heap.IsCell c ov ∧ OptRep X Z ov (σ x)
  own : ∀ a, ownA env a → Z a = none ∧ H a = none ∧ X.base.get? a = none

section
variable {X : Cx} {s s' : Shared} {Z Z' : ZMap} {H H' : Hp} {env : Env} {σ : Sto}
theorem Inv.has (i : Inv X s Z H env σ) {a : Addr} (h : ownA env a) : s.heap.get? a ≠ none := by
  rcases h with rfl | ⟨x, hx⟩
  · obtain ⟨m, ⟨o, _, _, ho, _⟩, _⟩ := i.loc; rw [ho]; simp
  · obtain ⟨ov, ⟨o, ho, _⟩, _⟩ := i.cel x a hx; rw [ho]; simp
theorem Inv.step (i : Inv X s Z H env σ) (e : Ev s Z H nil s' Z' H') (o : Ok X s' Z' H') : Inv X s' Z' H' env σ where
  ok := o
  eok := i.eok
  loc := by
    obtain ⟨m, ⟨ol, es, ep, ho, r⟩, hm⟩ := i.loc
    exact ⟨m, ⟨ol, es, ep, e.keep _ _ ho (i.own _ (.inl rfl)).2.1 id, r⟩, fun x hx => (hm x hx).mono e.zle⟩
  cel := fun x c hc => by
    obtain ⟨ov, ⟨oc, ho, hd⟩, r⟩ := i.cel x c hc
    exact ⟨ov, ⟨oc, e.keep _ _ ho (i.own _ (.inr ⟨x, hc⟩)).2.1 id, hd⟩, r.mono e.zle⟩
  own := fun a h => ⟨e.znew a (i.own a h).1 (i.own a h).2.1 (i.has h), e.hnew a (i.own a h).2.1 (i.has h), (i.own a h).2.2⟩

theorem Inv.less (i : Inv X s Z H env σ) {σ' : Sto} (h : ∀ x, σ' x = none ∨ σ' x = σ x) : Inv X s Z H env σ' where
  ok := i.ok
  eok := i.eok
  loc := by
    obtain ⟨m, hn, hm⟩ := i.loc
    exact ⟨m, hn, fun x hx => (h x).elim (fun e => e ▸ .none) fun e => e ▸ hm x hx⟩
  cel := fun x c hc => let ⟨ov, hv, r⟩ := i.cel x c hc; ⟨ov, hv, (h x).elim (fun e => e ▸ .none) fun e => e ▸ r⟩
  own := i.own
end

/-- what an evaluation gives -/
inductive PE (X : Cx) (s : Shared) (Z : ZMap) (H : Hp) (Q : D → Hp → Prop) (v : Value) (s' : Shared) : Prop
  | mk (Z' : ZMap) (H' : Hp) (d : D) (e : Ev s Z H nil s' Z' H') (o : Ok X s' Z' H') (r : Rep X Z' v d) (q : Q d H')
inductive PB (X : Cx) (s : Shared) (Z : ZMap) (H : Hp) (Q : Bool → Hp → Prop) (b : Bool) (s' : Shared) : Prop
  | mk (Z' : ZMap) (H' : Hp) (e : Ev s Z H nil s' Z' H') (o : Ok X s' Z' H') (q : Q b H')
inductive PL (X : Cx) (s : Shared) (Z : ZMap) (H : Hp) (Q : List D → Hp → Prop) (vs : List Value) (s' : Shared) : Prop
  | mk (Z' : ZMap) (H' : Hp) (ds : List D) (e : Ev s Z H nil s' Z' H') (o : Ok X s' Z' H') (r : Reps X Z' vs ds) (q : Q ds H')
inductive PA (X : Cx) (s : Shared) (Z : ZMap) (H : Hp) (env : Env) (Q : Sto → Hp → Prop) (u : Unit) (s' : Shared) : Prop
  | mk (Z' : ZMap) (H' : Hp) (σ' : Sto) (e : Ev s Z H (ownA env) s' Z' H') (i : Inv X s' Z' H' env σ') (q : Q σ' H')
inductive PS (X : Cx) (s : Shared) (Z : ZMap) (H : Hp) (env : Env) (Q : Fl → Sto → Hp → Prop) (fl : Flow) (s' : Shared) : Prop
  | mk (Z' : ZMap) (H' : Hp) (σ' : Sto) (f : Fl) (e : Ev s Z H (ownA env) s' Z' H') (i : Inv X s' Z' H' env σ') (r : FlRep X Z' fl f) (q : Q f σ' H')
abbrev No : Value → Shared → Prop := fun _ _ => False

noncomputable def tE (X : Cx) (A : Around) (env : Env) (e : Expr) (σ : Sto) (H : Hp) (Q : D → Hp → Prop) : Prop :=
  ∀ s Z, Inv X s Z H env σ → wpAny X.M A (eval e env) (PE X s Z H Q) No s
noncomputable def tT (X : Cx) (A : Around) (env : Env) (e : Expr) (σ : Sto) (H : Hp) (Q : Bool → Hp → Prop) : Prop :=
  ∀ s Z, Inv X s Z H env σ → wpAny X.M A (isTrue e env (eval e env)) (PB X s Z H Q) No s
noncomputable def tX (X : Cx) (A : Around) (env : Env) (st : Stmt) (σ : Sto) (H : Hp) (Q : Fl → Sto → Hp → Prop) : Prop :=
  ∀ s Z, Inv X s Z H env σ → wpAny X.M A (exec st env) (PS X s Z H env Q) No s
noncomputable def tS (X : Cx) (A : Around) (env : Env) (ss : List Stmt) (σ : Sto) (H : Hp) (Q : Fl → Sto → Hp → Prop) : Prop :=
  ∀ s Z, Inv X s Z H env σ → wpAny X.M A (execs ss env) (PS X s Z H env Q) No s
noncomputable def tA (X : Cx) (A : Around) (env : Env) (target : Expr) (d : D) (σ : Sto) (H : Hp) (Q : Sto → Hp → Prop) : Prop :=
  ∀ s Z v, Inv X s Z H env σ → Rep X Z v d → wpAny X.M A (assign target env v) (PA X s Z H env Q) No s
/-- an operation of values -/
noncomputable def t1 (X : Cx) (A : Around) (f : Value → Sem Value) (d : D) (H : Hp) (Q : D → Hp → Prop) : Prop :=
  ∀ s Z v, Ok X s Z H → Rep X Z v d → wpAny X.M A (f v) (PE X s Z H Q) No s
noncomputable def b1 (X : Cx) (A : Around) (f : Value → Sem Bool) (d : D) (H : Hp) (Q : Bool → Hp → Prop) : Prop :=
  ∀ s Z v, Ok X s Z H → Rep X Z v d → wpAny X.M A (f v) (PB X s Z H Q) No s
noncomputable def t2 (X : Cx) (A : Around) (f : Value → Value → Sem Value) (d e : D) (H : Hp) (Q : D → Hp → Prop) : Prop :=
  ∀ s Z v u, Ok X s Z H → Rep X Z v d → Rep X Z u e → wpAny X.M A (f v u) (PE X s Z H Q) No s
noncomputable def tC (X : Cx) (A : Around) (f : Value) (ds : List D) (H : Hp) (Q : D → Hp → Prop) : Prop :=
  ∀ s Z vs, Ok X s Z H → Reps X Z vs ds → wpAny X.M A (call f vs) (PE X s Z H Q) No s

section
variable {X : Cx} {A : Around} {s s' s'' : Shared} {Z Z' : ZMap} {H H' : Hp} {env : Env} {σ σ' : Sto}

theorem PE.trans {Q : D → Hp → Prop} {v : Value} (e : Ev s Z H nil s' Z' H') (p : PE X s' Z' H' Q v s'') : PE X s Z H Q v s'' :=
  by obtain ⟨Z'', H'', d, e', o, r, q⟩ := p; exact ⟨Z'', H'', d, e.trans e', o, r, q⟩
theorem PB.trans {Q : Bool → Hp → Prop} {v : Bool} (e : Ev s Z H nil s' Z' H') (p : PB X s' Z' H' Q v s'') : PB X s Z H Q v s'' :=
  by obtain ⟨Z'', H'', e', o, q⟩ := p; exact ⟨Z'', H'', e.trans e', o, q⟩
theorem PS.trans {Q : Fl → Sto → Hp → Prop} {v : Flow} (e : Ev s Z H (ownA env) s' Z' H') (p : PS X s' Z' H' env Q v s'') : PS X s Z H env Q v s'' :=
  by obtain ⟨Z'', H'', σ'', f, e', i, r, q⟩ := p; exact ⟨Z'', H'', σ'', f, e.trans e', i, r, q⟩
theorem PA.trans {Q : Sto → Hp → Prop} {u : Unit} (e : Ev s Z H (ownA env) s' Z' H') (p : PA X s' Z' H' env Q u s'') : PA X s Z H env Q u s'' :=
  by obtain ⟨Z'', H'', σ'', e', i, q⟩ := p; exact ⟨Z'', H'', σ'', e.trans e', i, q⟩
theorem PE.mono {Q Q' : D → Hp → Prop} {v : Value} (p : PE X s Z H Q v s') (h : ∀ d H', Q d H' → Q' d H') : PE X s Z H Q' v s' :=
  by obtain ⟨Z', H', d, e, o, r, q⟩ := p; exact ⟨Z', H', d, e, o, r, h _ _ q⟩
theorem PS.mono {Q Q' : Fl → Sto → Hp → Prop} {v : Flow} (p : PS X s Z H env Q v s') (h : ∀ f σ' H', Q f σ' H' → Q' f σ' H') : PS X s Z H env Q' v s' :=
  by obtain ⟨Z', H', σ', f, e, o, r, q⟩ := p; exact ⟨Z', H', σ', f, e, o, r, h _ _ _ q⟩
theorem PE.now {Q : D → Hp → Prop} {v : Value} {d : D} (o : Ok X s Z H) (r : Rep X Z v d) (q : Q d H) : PE X s Z H Q v s := ⟨Z, H, d, .refl, o, r, q⟩
theorem PE.tok {Q : D → Hp → Prop} {v : Value} {d : D} (tk : Nat) (o : Ok X s Z H) (r : Rep X Z v d) (q : Q d H) : PE X s Z H Q v { s with toks := tk } := ⟨Z, H, d, .tok tk, o.tok tk, r, q⟩
theorem PB.now {Q : Bool → Hp → Prop} {v : Bool} (o : Ok X s Z H) (q : Q v H) : PB X s Z H Q v s := ⟨Z, H, .refl, o, q⟩

theorem tE.mono {e : Expr} {Q Q' : D → Hp → Prop} (t : tE X A env e σ H Q) (h : ∀ d H', Q d H' → Q' d H') : tE X A env e σ H Q' :=
  fun s Z i => wpAny_mono (t s Z i) (fun _ _ p => p.mono h) fun _ _ f => f
theorem tS.mono {e : List Stmt} {Q Q' : Fl → Sto → Hp → Prop} (t : tS X A env e σ H Q) (h : ∀ f σ' H', Q f σ' H' → Q' f σ' H') : tS X A env e σ H Q' :=
  fun s Z i => wpAny_mono (t s Z i) (fun _ _ p => p.mono h) fun _ _ f => f

/-! expressions -/
theorem tE_int {i : Int} {k : Nat} {pos : Pos} {Q : D → Hp → Prop} (h : Q (.int i) H) : tE X A env (.Constant (.int i) k pos) σ H Q :=
  fun s Z i => wpAny_Constant_int (.tok _ i.ok (.int _ _) h)
theorem tE_str {x : Str} {k : Nat} {pos : Pos} {Q : D → Hp → Prop} (h : Q (.str x) H) : tE X A env (.Constant (.str x) k pos) σ H Q :=
  fun s Z i => wpAny_mkText (.tok _ i.ok (.str _ _) h)
theorem tE_bool {b : Bool} {k : Nat} {pos : Pos} {Q : D → Hp → Prop} (h : Q (.bool b) H) : tE X A env (.Constant (.bool b) k pos) σ H Q :=
  fun s Z i => wpAny_pure (.now i.ok (.bool _) h)
theorem tE_none {k : Nat} {pos : Pos} {Q : D → Hp → Prop} (h : Q .none H) : tE X A env (.Constant .none k pos) σ H Q :=
  fun s Z i => wpAny_pure (.now i.ok .none h)

theorem tE_loc {x : Str} {pos : Pos} {d : D} {Q : D → Hp → Prop} (hl : env.kindOf x = some .local) (hv : σ x = some d) (h : Q d H) (hd : (x == ("__debug__" : Str)) = false := by with_unfolding_all exact rfl) :
    tE X A env (.Name x pos) σ H Q := fun s Z i => by
  obtain ⟨m, hn, hm⟩ := i.loc
  have r := hm x hl
  rw [hv] at r
  cases hmx : m x with
  | none => rw [hmx] at r; cases r
  | some v =>
    rw [hmx] at r
    cases r with
    | some r => exact wpAny_Name (wpAny_loadName_local i.eok.kind hl hn hmx (.now i.ok r h)) hd
theorem tE_cell {x : Str} {pos : Pos} {c : Addr} {d : D} {Q : D → Hp → Prop} (hl : env.kindOf x = some .cell) (hc : env.cells.lookup x = some c) (hv : σ x = some d) (h : Q d H) (hd : (x == ("__debug__" : Str)) = false := by with_unfolding_all exact rfl) :
    tE X A env (.Name x pos) σ H Q := fun s Z i => by
  obtain ⟨ov, hv', r⟩ := i.cel x c hc
  rw [hv] at r
  cases r with
  | some r => exact wpAny_Name (wpAny_loadName_cell i.eok.kind hl hc hv' (.now i.ok r h)) hd
theorem tE_glob {x : Str} {pos : Pos} {v : Value} {Q : D → Hp → Prop} (hl : env.kindOf x = some .globalImplicit) (e : nsIn X.K mainGlobals x = some (some v)) (h : Q (.raw v) H) (hd : (x == ("__debug__" : Str)) = false := by with_unfolding_all exact rfl) :
    tE X A env (.Name x pos) σ H Q := fun s Z i => by
  refine Name_function_global i.eok.kind hl ?_ hd
  exact loadGlobal_global (env := env) (by rw [i.eok.glob]; exact X.ng.keeps i.ok.base) (mg_of X.kin X.ng e) (.now i.ok (.raw v) h)
theorem tE_blt {x : Str} {pos : Pos} {v : Value} {Q : D → Hp → Prop} (hl : env.kindOf x = some .globalImplicit) (e : nsIn X.K mainGlobals x = some none) (hv : bootBuiltins x = some v) (hn : x ≠ "__name__") (h : Q (.raw v) H) (hd : (x == ("__debug__" : Str)) = false := by with_unfolding_all exact rfl) :
    tE X A env (.Name x pos) σ H Q := fun s Z i => by
  refine Name_function_global i.eok.kind hl ?_ hd
  refine loadGlobal_builtin (env := env) (by rw [i.eok.glob]; exact X.ng.keeps i.ok.base) (mg_none_of X.kin X.ng e) (by rw [i.eok.blt]; exact X.nb.keeps i.ok.base) ((X.hb x hn).trans hv) (.now i.ok (.raw v) h)

theorem tE_BinOp {l r : Expr} {op : Operator} {pos : Pos} {Q : D → Hp → Prop} (h : tE X A env l σ H (fun a H₁ => tE X A env r σ H₁ (fun b H₂ => t2 X A (binaryOp op) a b H₂ Q))) :
    tE X A env (.BinOp l op r pos) σ H Q := fun s Z i => by
  refine wpAny_BinOp (wpAny_mono (h s Z i) (fun a s₁ p => ?_) fun _ _ f => f)
  obtain ⟨Z₁, H₁, da, e₁, o₁, r₁, q₁⟩ := p
  refine wpAny_mono (q₁ s₁ Z₁ (i.step e₁ o₁)) (fun b s₂ p => ?_) fun _ _ f => f
  obtain ⟨Z₂, H₂, db, e₂, o₂, r₂, q₂⟩ := p
  exact wpAny_mono (q₂ s₂ Z₂ a b o₂ (r₁.mono e₂.zle) r₂) (fun v s₃ p => (p.trans e₂).trans e₁) fun _ _ f => f
theorem tE_Cmp {l r : Expr} {op : CmpOp} {pos : Pos} {Q : D → Hp → Prop} (h : tE X A env l σ H (fun a H₁ => tE X A env r σ H₁ (fun b H₂ => t2 X A (compareOp op) a b H₂ Q))) (hm : behindInMarks op r = false := by with_unfolding_all rfl) :
    tE X A env (.Compare l [op] [r] pos) σ H Q := fun s Z i => by
  refine wpAny_Compare1 (wpAny_mono (h s Z i) (fun a s₁ p => ?_) fun _ _ f => f) hm
  obtain ⟨Z₁, H₁, da, e₁, o₁, r₁, q₁⟩ := p
  refine wpAny_mono (q₁ s₁ Z₁ (i.step e₁ o₁)) (fun b s₂ p => ?_) fun _ _ f => f
  obtain ⟨Z₂, H₂, db, e₂, o₂, r₂, q₂⟩ := p
  exact wpAny_mono (q₂ s₂ Z₂ a b o₂ (r₁.mono e₂.zle) r₂) (fun v s₃ p => (p.trans e₂).trans e₁) fun _ _ f => f
theorem tE_Un {x : Expr} {op : UnaryOp} {pos : Pos} {Q : D → Hp → Prop} (h : tE X A env x σ H (fun a H₁ => t1 X A (unaryOp op) a H₁ Q)) : tE X A env (.UnaryOp op x pos) σ H Q := fun s Z i => by
  refine wpAny_bind (wpAny_mono (h s Z i) (fun a s₁ p => ?_) fun _ _ f => f)
  obtain ⟨Z₁, H₁, da, e₁, o₁, r₁, q₁⟩ := p
  exact wpAny_bind (wpAny_standAt (wpAny_holding (wpAny_mono (q₁ s₁ Z₁ a o₁ r₁) (fun v s₃ p => p.trans e₁) fun _ _ f => f)))
theorem tE_IfExp {c a b : Expr} {pos : Pos} {Q : D → Hp → Prop} (h : tT X A env c σ H (fun t H₁ => if t then tE X A env a σ H₁ Q else tE X A env b σ H₁ Q)) : tE X A env (.IfExp c a b pos) σ H Q := fun s Z i => by
  show wpAny _ _ (isTrue c env (eval c env) >>= fun t => if t then eval a env else eval b env) _ _ _
  refine wpAny_bind (wpAny_mono (h s Z i) (fun t s₁ p => ?_) fun _ _ f => f)
  obtain ⟨Z₁, H₁, e₁, o₁, q₁⟩ := p
  cases t
  · exact wpAny_mono (q₁ s₁ Z₁ (i.step e₁ o₁)) (fun v s₃ p => p.trans e₁) fun _ _ f => f
  · exact wpAny_mono (q₁ s₁ Z₁ (i.step e₁ o₁)) (fun v s₃ p => p.trans e₁) fun _ _ f => f
/-- an item: the object, the place -/
noncomputable def itemOp (slice : Expr) (o i : Value) : Sem Value := do
  let r ← subscripted slice (← getitemInPython o) o i
  pure r
theorem tE_Sub {o i : Expr} {pos : Pos} {Q : D → Hp → Prop} (h : tE X A env o σ H (fun a H₁ => tE X A env i σ H₁ (fun b H₂ => t2 X A (subscriptTail o i) a b H₂ Q))) :
    tE X A env (.Subscript o i pos) σ H Q := fun s Z iv => by
  refine Subscript_ (wpAny_mono (h s Z iv) (fun a s₁ p => ?_) fun _ _ f => f)
  obtain ⟨Z₁, H₁, da, e₁, o₁, r₁, q₁⟩ := p
  refine wpAny_mono (q₁ s₁ Z₁ (iv.step e₁ o₁)) (fun b s₂ p => ?_) fun _ _ f => f
  obtain ⟨Z₂, H₂, db, e₂, o₂, r₂, q₂⟩ := p
  exact wpAny_mono (q₂ s₂ Z₂ a b o₂ (r₁.mono e₂.zle) r₂) (fun v s₃ p => (p.trans e₂).trans e₁) fun _ _ f => f

/-- arguments, items of a display -/
noncomputable def noStar : Expr → Bool
  | .Starred .. => false
  | _ => true
noncomputable def tL (X : Cx) (A : Around) (env : Env) : List Expr → Sto → Hp → (List D → Hp → Prop) → Prop
  | [], _, H, Q => Q [] H
  | e :: es, σ, H, Q => tE X A env e σ H (fun d H₁ => tL X A env es σ H₁ (fun ds H₂ => Q (d :: ds) H₂))
theorem starEach_plain {e : Expr} {es : List Expr} (h : noStar e = true) : starEach (e :: es) env = (false, eval e env) :: starEach es env := by
  cases e <;> first | rfl | cases h
theorem spliced_tL {pos : Pos} : ∀ {es : List Expr} {H : Hp} {Q : List D → Hp → Prop} {s : Shared} {Z : ZMap}, es.all noStar = true → tL X A env es σ H Q → Inv X s Z H env σ →
    wpAny X.M A (spliced (backTo pos (starEach es env))) (PL X s Z H Q) No s
  | [], H, Q, s, Z, _, h, i => wpAny_pure ⟨Z, H, [], .refl, i.ok, .nil, h⟩
  | e :: es, H, Q, s, Z, hs, h, i => by
    simp only [List.all_cons, Bool.and_eq_true] at hs
    rw [starEach_plain hs.1]
    show wpAny _ _ (do
      let v ← eval e env
      let here ← pure [v]
      return here ++ (← holding here (spliced (backTo pos (starEach es env))))) _ _ _
    refine wpAny_bind (wpAny_mono (h s Z i) (fun v s₁ p => ?_) fun _ _ f => f)
    obtain ⟨Z₁, H₁, d, e₁, o₁, r₁, q₁⟩ := p
    refine wpAny_bind (wpAny_pure (wpAny_bind (wpAny_holding (wpAny_mono (spliced_tL (pos := pos) hs.2 q₁ (i.step e₁ o₁)) (fun vs s₂ p => ?_) fun _ _ f => f))))
    obtain ⟨Z₂, H₂, ds, e₂, o₂, r₂, q₂⟩ := p
    exact wpAny_pure ⟨Z₂, H₂, d :: ds, e₁.trans e₂, o₂, .cons (r₁.mono e₂.zle) r₂, q₂⟩


theorem tE_Tuple {elts : List Expr} {k : Nat} {pos : Pos} {Q : D → Hp → Prop} (hs : elts.all noStar = true) (h : tL X A env elts σ H (fun ds H₁ => ds.length ≤ sizeLine ∧ Q (.tup ds) H₁)) :
    tE X A env (.Tuple elts k pos) σ H Q := fun s Z i => by
  refine Tuple_ (wpAny_mono (spliced_tL hs h i) (fun vs s₁ p => ?_) fun _ _ f => f)
  obtain ⟨Z₁, H₁, ds, e₁, o₁, r₁, hz, q₁⟩ := p
  refine wpAny_newObj_type ?_ (by show vs.toArray.size ≤ sizeLine; rw [List.size_toArray, r₁.length]; exact hz)
  have k := fun b o (e : s₁.heap.get? b = some o) => Heap.get?_push_of_some ({ cls := .type "tuple", dict := none, data := .seq vs.toArray } : Obj) e
  have hn : s₁.heap.get? s₁.heap.objs.size = none := Heap.get?_none_of_le (Nat.le_refl _)
  exact ⟨_, _, .tup ds, e₁.trans (Ev.newZ o₁ (tk := s₁.toks) k hn), o₁.newZ k hn o₁.big (Heap.get?_push_size _ rfl), .cont zput_self (.tup rfl rfl (by simpa using r₁.mono (zput_le (by
    cases q : Z₁ s₁.heap.objs.size with | none => rfl | some o' => rw [o₁.z _ o' q] at hn; cases hn)))), q₁⟩
theorem tE_List {elts : List Expr} {pos : Pos} {Q : D → Hp → Prop} (hs : elts.all noStar = true) (h : tL X A env elts σ H (fun ds H₁ => ds.length ≤ sizeLine ∧ Q (.lst ds) H₁)) :
    tE X A env (.List elts pos) σ H Q := fun s Z i => by
  refine List_ (wpAny_mono (spliced_tL hs h i) (fun vs s₁ p => ?_) fun _ _ f => f)
  obtain ⟨Z₁, H₁, ds, e₁, o₁, r₁, hz, q₁⟩ := p
  refine wpAny_newObj_type ?_ (by show vs.toArray.size ≤ sizeLine; rw [List.size_toArray, r₁.length]; exact hz)
  have k := fun b o (e : s₁.heap.get? b = some o) => Heap.get?_push_of_some ({ cls := .type "list", dict := none, data := .seq vs.toArray } : Obj) e
  have hn : s₁.heap.get? s₁.heap.objs.size = none := Heap.get?_none_of_le (Nat.le_refl _)
  exact ⟨_, _, .lst ds, e₁.trans (Ev.newZ o₁ (tk := s₁.toks) k hn), o₁.newZ k hn o₁.big (Heap.get?_push_size _ rfl), .cont zput_self (.lst rfl (by simpa using r₁.mono (zput_le (by
    cases q : Z₁ s₁.heap.objs.size with | none => rfl | some o' => rw [o₁.z _ o' q] at hn; cases hn)))), q₁⟩
/-- a list display that is to turn -/
theorem tE_ListM {elts : List Expr} {pos : Pos} {Q : D → Hp → Prop} (hs : elts.all noStar = true) (h : tL X A env elts σ H (fun ds H₁ => ds.length ≤ sizeLine ∧ ∀ a, H₁ a = none → Q (.raw (.ref a)) (hput H₁ a (.lst ds)))) :
    tE X A env (.List elts pos) σ H Q := fun s Z i => by
  refine List_ (wpAny_mono (spliced_tL hs h i) (fun vs s₁ p => ?_) fun _ _ f => f)
  obtain ⟨Z₁, H₁, ds, e₁, o₁, r₁, hz, q₁⟩ := p
  refine wpAny_newObj_type ?_ (by show vs.toArray.size ≤ sizeLine; rw [List.size_toArray, r₁.length]; exact hz)
  have k := fun b o (e : s₁.heap.get? b = some o) => Heap.get?_push_of_some ({ cls := .type "list", dict := none, data := .seq vs.toArray } : Obj) e
  have hn : s₁.heap.get? s₁.heap.objs.size = none := Heap.get?_none_of_le (Nat.le_refl _)
  have hh : H₁ s₁.heap.objs.size = none := by
    cases q : H₁ s₁.heap.objs.size with
    | none => rfl
    | some d => obtain ⟨o', ho', _⟩ := o₁.h _ d q; rw [ho'] at hn; cases hn
  exact ⟨_, _, .raw _, e₁.trans (Ev.newH (Z := Z₁) (tk := s₁.toks) k hn), o₁.newH k hn o₁.big (Heap.get?_push_size _ rfl) (.lst rfl (by simpa using r₁)), .raw _, q₁ _ hh⟩
end
end Mine

end

noncomputable section
open PySem PySem.W PySem.Calls PyProof.Rows
set_option maxHeartbeats 1000000
namespace Mine

section
variable {X : Cx} {A : Around} {s s' s'' : Shared} {Z Z' : ZMap} {H H' : Hp} {env : Env} {σ σ' : Sto}

/-! tests -/
theorem tT_Cmp {l r : Expr} {op : CmpOp} {pos : Pos} {Q : Bool → Hp → Prop} (h : tE X A env l σ H (fun a H₁ => tE X A env r σ H₁ (fun b H₂ => t2 X A (compareOp op) a b H₂ (fun d H₃ => ∃ t, d = .bool t ∧ Q t H₃))))
    (hm : behindInMarks op r = false := by with_unfolding_all rfl) : tT X A env (.Compare l [op] [r] pos) σ H Q := fun s Z i => by
  refine wpAny_isTrue_Compare1 (wpAny_mono (h s Z i) (fun a s₁ p => ?_) fun _ _ f => f) hm
  obtain ⟨Z₁, H₁, da, e₁, o₁, r₁, q₁⟩ := p
  refine wpAny_mono (q₁ s₁ Z₁ (i.step e₁ o₁)) (fun b s₂ p => ?_) fun _ _ f => f
  obtain ⟨Z₂, H₂, db, e₂, o₂, r₂, q₂⟩ := p
  refine wpAny_mono (q₂ s₂ Z₂ a b o₂ (r₁.mono e₂.zle) r₂) (fun v s₃ p => ?_) fun _ _ f => f
  obtain ⟨Z₃, H₃, dc, e₃, o₃, r₃, t, rfl, q₃⟩ := p
  cases r₃ with
  | bool => exact wpAny_truthy_bool ⟨Z₃, H₃, (e₁.trans e₂).trans e₃, o₃, q₃⟩
  | cont _ r => cases r
theorem tT_Not {x : Expr} {pos : Pos} {Q : Bool → Hp → Prop} (h : tT X A env x σ H (fun t H₁ => Q (!t) H₁)) : tT X A env (.UnaryOp .Not x pos) σ H Q := fun s Z i => by
  refine isTrue_not (wpAny_mono (h s Z i) (fun t s₁ p => ?_) fun _ _ f => f)
  obtain ⟨Z', H', e', o', q'⟩ := p; exact ⟨Z', H', e', o', q'⟩
theorem tT_val {e : Expr} {Q : Bool → Hp → Prop} (h : tE X A env e σ H (fun d H₁ => b1 X A truthy d H₁ Q)) (he : isTrue e env (eval e env) = (do let v ← eval e env; standAt e.pos; holding [v] (truthy v)) := by with_unfolding_all exact rfl) :
    tT X A env e σ H Q := fun s Z i => by
  refine isTrue_plain (wpAny_mono (h s Z i) (fun v s₁ p => ?_) fun _ _ f => f) he
  obtain ⟨Z₁, H₁, d, e₁, o₁, r₁, q₁⟩ := p
  exact wpAny_mono (q₁ s₁ Z₁ v o₁ r₁) (fun b s₂ p => p.trans e₁) fun _ _ f => f
noncomputable def tAll (X : Cx) (A : Around) (env : Env) (op : BoolOp) : List Expr → Sto → Hp → (Bool → Hp → Prop) → Prop
  | [], _, H, Q => Q (match op with | .And => true | .Or => false) H
  | e :: es, σ, H, Q => tT X A env e σ H (fun t H₁ => match op, t with
    | .And, false => Q false H₁
    | .Or, true => Q true H₁
    | _, _ => tAll X A env op es σ H₁ Q)
theorem allTrue_tAll {op : BoolOp} : ∀ {es : List Expr} {H : Hp} {Q : Bool → Hp → Prop} {s : Shared} {Z : ZMap}, tAll X A env op es σ H Q → Inv X s Z H env σ → wpAny X.M A (allTrue op es env) (PB X s Z H Q) No s
  | [], H, Q, s, Z, h, i => by
    show wpAny _ _ (pure (op == .And)) _ _ _
    refine wpAny_pure (.now i.ok ?_)
    cases op <;> exact h
  | e :: es, H, Q, s, Z, h, i => by
    show wpAny _ _ (do match op, ← isTrue e env (eval e env) with | .And, false => pure false | .Or, true => pure true | _, _ => allTrue op es env) _ _ _
    refine wpAny_bind (wpAny_mono (h s Z i) (fun t s₁ p => ?_) fun _ _ f => f)
    obtain ⟨Z₁, H₁, e₁, o₁, q₁⟩ := p
    cases op <;> cases t
    · exact wpAny_pure ⟨Z₁, H₁, e₁, o₁, q₁⟩
    · exact wpAny_mono (allTrue_tAll (es := es) q₁ (i.step e₁ o₁)) (fun b s₂ p => p.trans e₁) fun _ _ f => f
    · exact wpAny_mono (allTrue_tAll (es := es) q₁ (i.step e₁ o₁)) (fun b s₂ p => p.trans e₁) fun _ _ f => f
    · exact wpAny_pure ⟨Z₁, H₁, e₁, o₁, q₁⟩
theorem tT_Bool {op : BoolOp} {es : List Expr} {pos : Pos} {Q : Bool → Hp → Prop} (h : tAll X A env op es σ H Q) : tT X A env (.BoolOp op es pos) σ H Q := fun s Z i =>
  wpAny_isTrue_BoolOp (allTrue_tAll h i)
noncomputable def tBO (X : Cx) (A : Around) (env : Env) (op : BoolOp) : List Expr → Sto → Hp → (D → Hp → Prop) → Prop
  | [], _, _, _ => False
  | [e], σ, H, Q => tE X A env e σ H Q
  | e :: e' :: es, σ, H, Q => tE X A env e σ H (fun d H₁ => b1 X A truthy d H₁ (fun t H₂ => match op, t with
    | .And, false => Q d H₂
    | .Or, true => Q d H₂
    | _, _ => tBO X A env op (e' :: es) σ H₂ Q))
theorem boolOp_tBO {op : BoolOp} {pos : Pos} : ∀ {es : List Expr} {H : Hp} {Q : D → Hp → Prop} {s : Shared} {Z : ZMap}, tBO X A env op es σ H Q → Inv X s Z H env σ → wpAny X.M A (boolOp pos op (evalEach es env)) (PE X s Z H Q) No s
  | [], _, _, _, _, h, _ => h.elim
  | [e], _, _, s, Z, h, i => h s Z i
  | e :: e' :: es, H, Q, s, Z, h, i => by
    show wpAny _ _ (do
      let v ← eval e env
      standAt pos
      let t ← holding [v] (truthy v)
      match op, t with
      | .And, false | .Or, true => pure v
      | _, _ => boolOp pos op (evalEach (e' :: es) env)) _ _ _
    refine wpAny_bind (wpAny_mono (h s Z i) (fun v s₁ p => ?_) fun _ _ f => f)
    obtain ⟨Z₁, H₁, d, e₁, o₁, r₁, q₁⟩ := p
    refine wpAny_bind (wpAny_standAt (wpAny_bind (wpAny_holding (wpAny_mono (q₁ s₁ Z₁ v o₁ r₁) (fun t s₂ p => ?_) fun _ _ f => f))))
    obtain ⟨Z₂, H₂, e₂, o₂, q₂⟩ := p
    have e12 := e₁.trans e₂
    cases op <;> cases t
    · exact wpAny_pure ⟨Z₂, H₂, d, e12, o₂, r₁.mono e₂.zle, q₂⟩
    · exact wpAny_mono (boolOp_tBO (es := e' :: es) q₂ (i.step e12 o₂)) (fun b s₂ p => p.trans e12) fun _ _ f => f
    · exact wpAny_mono (boolOp_tBO (es := e' :: es) q₂ (i.step e12 o₂)) (fun b s₂ p => p.trans e12) fun _ _ f => f
    · exact wpAny_pure ⟨Z₂, H₂, d, e12, o₂, r₁.mono e₂.zle, q₂⟩
theorem tE_Bool {op : BoolOp} {es : List Expr} {pos : Pos} {Q : D → Hp → Prop} (h : tBO X A env op es σ H Q) : tE X A env (.BoolOp op es pos) σ H Q := fun s Z i => boolOp_tBO h i

/-! truth -/
theorem b1_bool {t : Bool} {Q : Bool → Hp → Prop} (h : Q t H) : b1 X A truthy (.bool t) H Q := fun s Z v o r => by
  cases r with
  | bool => exact wpAny_truthy_bool (.now o h)
  | cont _ r => cases r

/-! calls -/
/-- who keeps the arguments of a call -/
noncomputable def KeepOk (X : Cx) (f : Value) : Prop := keepIn X.K f = true ∨ ∀ a, f ≠ .ref a
theorem keeper_of {f : Value} (h : KeepOk X f) (hp : Heap) (k : ∀ b o, X.base.get? b = some o → hp.get? b = some o) : ∃ kp, (kp = Keeper.frame ∨ kp = Keeper.machine ∨ kp = Keeper.boundFrame) ∧ Looks X.M hp (keeperOf f) kp := by
  rcases h with h | h
  · exact keeps_K h hp (X.kin.keeps k)
  · refine ⟨.machine, .inr (.inl rfl), ?_⟩
    cases f <;> first | exact Looks.of_pure rfl | exact absurd rfl (h _)
theorem evalArgs_of {f : Value} {pos : Pos} {args : List Expr} {Q : Args → Shared → Prop} {E : Value → Shared → Prop} (hs : args.all noStar = true) (h : wpAny X.M A (spliced (backTo pos (starEach args env))) (fun vs s' => Q ⟨vs, []⟩ s') E s) :
    wpAny X.M A (evalArgs f true (backTo pos (starEach args env)) []) Q E s := by
  cases args with
  | nil =>
    show wpAny X.M A (evalArgs f true [] []) Q E s
    unfold evalArgs
    show wpAny X.M A (spliced [] >>= _) Q E s
    refine wpAny_bind (wpAny_mono h (fun vs s' h' => ?_) fun _ _ x => x)
    refine wpAny_bind (wpAny_pure ?_)
    refine wpAny_holding ?_
    exact wpAny_bind (wpAny_pure (wpAny_bind (wpAny_pure (wpAny_pure h'))))
  | cons e es =>
    simp only [List.all_cons, Bool.and_eq_true] at hs
    rw [starEach_plain hs.1] at h ⊢
    exact evalArgs_plain h
theorem plain_args {pos : Pos} : ∀ {args : List Expr}, args.all noStar = true → (backTo pos (starEach args env)).any (·.1) = false
  | [], _ => rfl
  | e :: es, hs => by
    simp only [List.all_cons, Bool.and_eq_true] at hs
    rw [starEach_plain hs.1]
    show (false || (backTo pos (starEach es env)).any (·.1)) = false
    rw [plain_args hs.2]; rfl
/-- f(..), f known -/
theorem callWith_tC {f : Value} {first : List Value} {fds : List D} {pos : Pos} {args : List Expr} {Q : D → Hp → Prop} {s : Shared} {Z : ZMap} (hs : args.all noStar = true) (hk : KeepOk X f) (i : Inv X s Z H env σ) (hf : Reps X Z first fds)
    (h : tL X A env args σ H (fun ds H₁ => tC X A f (fds ++ ds) H₁ Q)) : wpAny X.M A (callWith pos f first (backTo pos (starEach args env)) []) (PE X s Z H Q) No s := by
  refine callWith_of (P := fun hp => ∀ b o, X.base.get? b = some o → hp.get? b = some o) (by simp [plain_args hs]) (keeper_of hk) (evalArgs_of hs (wpAny_mono (spliced_tL hs h i) (fun vs s₁ p => ?_) fun _ _ f => f))
  obtain ⟨Z₁, H₁, ds, e₁, o₁, r₁, q₁⟩ := p
  exact ⟨o₁.base, wpAny_mono (q₁ s₁ Z₁ (first ++ vs) o₁ ((hf.mono e₁.zle).append r₁)) (fun v s₂ p => p.trans e₁) fun _ _ f => f⟩
theorem tE_Call {fn : Expr} {args : List Expr} {pos : Pos} {Q : D → Hp → Prop} (hs : args.all noStar = true) (h : tE X A env fn σ H (fun d H₁ => ∃ f, d = .raw f ∧ KeepOk X f ∧ tL X A env args σ H₁ (fun ds H₂ => tC X A f ds H₂ Q)))
    (he : eval (.Call fn args [] pos) env = (do callWith pos (← eval fn env) [] (backTo pos (starEach args env)) (backToKw pos (keywordEach [] env))) := by with_unfolding_all exact rfl) :
    tE X A env (.Call fn args [] pos) σ H Q := fun s Z i => by
  rw [he]
  refine wpAny_bind (wpAny_mono (h s Z i) (fun v s₁ p => ?_) fun _ _ f => f)
  obtain ⟨Z₁, H₁, d, e₁, o₁, r₁, f, rfl, hk, q₁⟩ := p
  have hv : v = f := by cases r₁ with | raw => rfl | cont _ r => cases r
  subst hv
  exact wpAny_mono (callWith_tC (fds := []) hs hk (i.step e₁ o₁) .nil (by simpa using q₁)) (fun v s₂ p => p.trans e₁) fun _ _ f => f
/-- o.name(..): what the method is, and what it is handed first -/
noncomputable def tG (X : Cx) (A : Around) (name : Str) (d : D) (H : Hp) (Q : Value → List D → Prop) : Prop :=
  ∀ s Z v (pl : Sem Bool), Ok X s Z H → Rep X Z v d → wpAny X.M A (getMethod v name pl) (fun fx s' => ∃ tk ds, s' = { s with toks := tk } ∧ Reps X Z fx.2 ds ∧ Q fx.1 ds) No s
theorem tE_Meth {o : Expr} {name : Str} {args : List Expr} {apos pos : Pos} {pl : Sem Bool} {Q : D → Hp → Prop} (hs : args.all noStar = true)
    (h : tE X A env o σ H (fun d H₁ => tG X A name d H₁ (fun f fds => KeepOk X f ∧ tL X A env args σ H₁ (fun ds H₂ => tC X A f (fds ++ ds) H₂ Q))))
    (he : eval (.Call (.Attribute o name apos) args [] pos) env = (do
      let ov ← eval o env
      standAt apos.atName
      let (f, first) ← holding [ov] (getMethod ov name pl)
      callWith pos f first (backTo pos (starEach args env)) (backToKw pos (keywordEach [] env))) := by with_unfolding_all exact rfl) :
    tE X A env (.Call (.Attribute o name apos) args [] pos) σ H Q := fun s Z i => by
  refine methodCall_KW (wpAny_mono (h s Z i) (fun v s₁ p => ?_) fun _ _ f => f) he
  obtain ⟨Z₁, H₁, d, e₁, o₁, r₁, q₁⟩ := p
  refine wpAny_mono (q₁ s₁ Z₁ v pl o₁ r₁) (fun fx s₂ p => ?_) fun _ _ f => f
  obtain ⟨tk, fds, rfl, rf, hk, q₂⟩ := p
  have e₂ : Ev s₁ Z₁ H₁ nil { s₁ with toks := tk } Z₁ H₁ := .tok tk
  exact wpAny_mono (callWith_tC hs hk (i.step (e₁.trans e₂) (o₁.tok tk)) rf q₂) (fun v s₂ p => p.trans (e₁.trans e₂)) fun _ _ f => f

/-! stores -/
noncomputable def sput (σ : Sto) (x : Str) (d : D) : Sto := fun y => if y = x then some d else σ y

theorem tA_loc {x : Str} {pos : Pos} {d : D} {Q : Sto → Hp → Prop} (hl : env.kindOf x = some .local) (hc : env.cells.lookup x = none) (h : Q (sput σ x d) H) : tA X A env (.Name x pos) d σ H Q := fun s Z v i r => by
  obtain ⟨m, hn, hm⟩ := i.loc
  obtain ⟨ol, _, _, hol, _⟩ := id hn
  have ho := i.own env.locals (.inl rfl)
  refine wpAny_assign_Name (wpAny_storeName_local hl hn (fun h' hn' hs => ?_) (by rw [i.eok.kind]; rfl))
  have hol' : h'.get? env.locals ≠ none := by obtain ⟨o', _, _, e', _⟩ := hn'; rw [e']; simp
  have nz : ∀ a o, Z a = some o → a ≠ env.locals := fun a o e q => by rw [q, ho.1] at e; cases e
  have nh : ∀ a o, H a = some o → a ≠ env.locals := fun a o e q => by rw [q, ho.2.1] at e; cases e
  have nb : ∀ a o, X.base.get? a = some o → a ≠ env.locals := fun a o e q => by rw [q, ho.2.2] at e; cases e
  refine ⟨Z, H, sput σ x d, ⟨⟨_, _, rfl⟩, fun a o e _ hO => (hs.2 a fun q => hO (.inl q)).trans e, fun a e => ?_, .refl _, fun _ e _ _ => e, fun _ e _ => e⟩,
    ⟨⟨fun b o e => (hs.2 b (nb b o e)).trans (i.ok.base b o e), fun a o e => (hs.2 a (nz a o e)).trans (i.ok.z a o e), fun a d e => ?_, i.ok.sep, i.ok.low⟩, i.eok, ⟨_, hn', fun y hy => ?_⟩, fun y c hy => ?_, i.own⟩, h⟩
  · by_cases q : a = env.locals
    · subst q; exact absurd e hol'
    · rw [← hs.2 a q]; exact e
  · obtain ⟨o, ho, r⟩ := i.ok.h a d e
    exact ⟨o, (hs.2 a (nh a d e)).trans ho, r⟩
  · unfold sput
    split
    · exact .some r
    · exact hm y hy
  · obtain ⟨ov, hv, hr⟩ := i.cel y c hy
    refine ⟨ov, hv.sameBut hs (i.eok.apart y c hy), ?_⟩
    unfold sput
    split
    · rename_i q; subst q; rw [hc] at hy; cases hy
    · exact hr
theorem tA_cell {x : Str} {pos : Pos} {c : Addr} {d : D} {Q : Sto → Hp → Prop} (hl : env.kindOf x = some .cell) (hc : env.cells.lookup x = some c) (h : Q (sput σ x d) H) : tA X A env (.Name x pos) d σ H Q := fun s Z v i r => by
  obtain ⟨ov, hv, hr⟩ := i.cel x c hc
  have ho := i.own c (.inr ⟨x, hc⟩)
  refine wpAny_assign_Name (wpAny_storeName_cell i.eok.kind hl hc hv fun h' hv' hs => ?_)
  have nz : ∀ a o, Z a = some o → a ≠ c := fun a o e q => by rw [q, ho.1] at e; cases e
  have nh : ∀ a o, H a = some o → a ≠ c := fun a o e q => by rw [q, ho.2.1] at e; cases e
  have nb : ∀ a o, X.base.get? a = some o → a ≠ c := fun a o e q => by rw [q, ho.2.2] at e; cases e
  obtain ⟨m, hn, hm⟩ := i.loc
  refine ⟨Z, H, sput σ x d, ⟨⟨_, s.toks, rfl⟩, fun a o e _ hO => (hs.2 a fun q => hO (.inr ⟨x, q ▸ hc⟩)).trans e, fun a e => ?_, .refl _, fun _ e _ _ => e, fun _ e _ => e⟩,
    ⟨⟨fun b o e => (hs.2 b (nb b o e)).trans (i.ok.base b o e), fun a o e => (hs.2 a (nz a o e)).trans (i.ok.z a o e), fun a d e => ?_, i.ok.sep, i.ok.low⟩, i.eok, ⟨m, hn.sameBut hs (Ne.symm (i.eok.apart x c hc)), fun y hy => ?_⟩, fun y c' hy => ?_, i.own⟩, h⟩
  · by_cases q : a = c
    · subst q; obtain ⟨o', e', _⟩ := hv'; rw [show ({ s with heap := h' } : Shared).heap.get? a = h'.get? a from rfl, e'] at e; cases e
    · rw [← hs.2 a q]; exact e
  · obtain ⟨o, ho, r⟩ := i.ok.h a d e
    exact ⟨o, (hs.2 a (nh a d e)).trans ho, r⟩
  · unfold sput
    split
    · rename_i q; subst q; rw [hl] at hy; cases hy
    · exact hm y hy
  · by_cases q : y = x
    · subst q
      rw [hc] at hy; cases hy
      exact ⟨_, hv', by unfold sput; rw [if_pos rfl]; exact .some r⟩
    · have hcc : c' ≠ c := fun w => q (i.eok.inj y x c' hy (w ▸ hc))
      obtain ⟨ov', hv2, hr2⟩ := i.cel y c' hy
      exact ⟨ov', hv2.sameBut hs hcc, by unfold sput; rw [if_neg q]; exact hr2⟩
/-- a store into an object: setAttr, setItem -/
noncomputable def tU (X : Cx) (A : Around) (f : List Value → Sem Unit) (ds : List D) (H : Hp) (Q : Hp → Prop) : Prop :=
  ∀ s Z vs, Ok X s Z H → Reps X Z vs ds → wpAny X.M A (f vs) (fun _ s' => ∃ Z' H', Ev s Z H nil s' Z' H' ∧ Ok X s' Z' H' ∧ Q H') No s
noncomputable def setAttrOp (name : Str) : List Value → Sem Unit
  | [o, v] => setAttr o name v
  | _ => unsupported ""
noncomputable def setItemOp : List Value → Sem Unit
  | [o, i, v] => setItem o i v
  | _ => unsupported ""
theorem wpAny_release_ {M : Model} {E : Value → Shared → Prop} {vs keep : List Value} {Q : Unit → Shared → Prop} (h : Q () s) : wpAny M A (release vs keep) Q E s := fun Γ p hΓ => by rw [Sem.wp_release]; exact h
theorem tA_attr {o : Expr} {name : Str} {pos : Pos} {d : D} {Q : Sto → Hp → Prop} (h : tE X A env o σ H (fun od H₁ => tU X A (setAttrOp name) [od, d] H₁ (fun H₂ => Q σ H₂))) : tA X A env (.Attribute o name pos) d σ H Q := fun s Z v i r => by
  rw [arm_assign_Attribute]
  refine wpAny_bind (wpAny_holding (wpAny_mono (h s Z i) (fun ov s₁ p => ?_) fun _ _ f => f))
  obtain ⟨Z₁, H₁, od, e₁, o₁, r₁, q₁⟩ := p
  refine wpAny_bind (wpAny_standAt (wpAny_bind (wpAny_holding (wpAny_mono (q₁ s₁ Z₁ [ov, v] o₁ (.cons r₁ (.cons (r.mono e₁.zle) .nil))) (fun _ s₂ p => ?_) fun _ _ f => f))))
  obtain ⟨Z₂, H₂, e₂, o₂, q₂⟩ := p
  exact wpAny_release_ ⟨Z₂, H₂, σ, (e₁.trans e₂).any, i.step (e₁.trans e₂) o₂, q₂⟩
theorem tA_sub {o k : Expr} {pos : Pos} {d : D} {Q : Sto → Hp → Prop} (h : tE X A env o σ H (fun od H₁ => tE X A env k σ H₁ (fun kd H₂ => tU X A setItemOp [od, kd, d] H₂ (fun H₃ => Q σ H₃)))) : tA X A env (.Subscript o k pos) d σ H Q := fun s Z v i r => by
  rw [arm_assign_Subscript]
  refine wpAny_bind (wpAny_holding (wpAny_mono (h s Z i) (fun ov s₁ p => ?_) fun _ _ f => f))
  obtain ⟨Z₁, H₁, od, e₁, o₁, r₁, q₁⟩ := p
  refine wpAny_bind (wpAny_holding (wpAny_mono (q₁ s₁ Z₁ (i.step e₁ o₁)) (fun kv s₂ p => ?_) fun _ _ f => f))
  obtain ⟨Z₂, H₂, kd, e₂, o₂, r₂, q₂⟩ := p
  refine wpAny_bind (wpAny_standAt (wpAny_bind (wpAny_holding (wpAny_mono (q₂ s₂ Z₂ [ov, kv, v] o₂ (.cons (r₁.mono e₂.zle) (.cons r₂ (.cons ((r.mono e₁.zle).mono e₂.zle) .nil)))) (fun _ s₃ p => ?_) fun _ _ f => f))))
  obtain ⟨Z₃, H₃, e₃, o₃, q₃⟩ := p
  exact wpAny_release_ ⟨Z₃, H₃, σ, ((e₁.trans e₂).trans e₃).any, i.step ((e₁.trans e₂).trans e₃) o₃, q₃⟩
/-- a, b = .. -/
noncomputable def tAs (X : Cx) (A : Around) (env : Env) : List Expr → List D → Sto → Hp → (Sto → Hp → Prop) → Prop
  | [], [], σ, H, Q => Q σ H
  | t :: ts, d :: ds, σ, H, Q => tA X A env t d σ H (fun σ₁ H₁ => tAs X A env ts ds σ₁ H₁ Q)
  | _, _, _, _, _ => False
theorem assignEach_plain {t : Expr} {ts : List Expr} (h : noStar t = true) : assignEach (t :: ts) env = (false, assign t env) :: assignEach ts env := by
  cases t <;> first | rfl | cases h
theorem assignEach_len : ∀ {ts : List Expr}, ts.all noStar = true → (assignEach ts env).length = ts.length ∧ (assignEach ts env).findIdx? (·.1) = none
  | [], _ => ⟨rfl, rfl⟩
  | t :: ts, hs => by
    simp only [List.all_cons, Bool.and_eq_true] at hs
    rw [assignEach_plain hs.1]
    have := assignEach_len hs.2
    exact ⟨by simp [this.1], by simp [List.findIdx?_cons, this.2]⟩
theorem assign_tAs : ∀ {ts : List Expr} {ds : List D} {vs : List Value} {σ : Sto} {H : Hp} {Q : Sto → Hp → Prop} {s : Shared} {Z : ZMap}, ts.all noStar = true → tAs X A env ts ds σ H Q → Inv X s Z H env σ → Reps X Z vs ds →
    wpAny X.M A (assignInOrder ((assignEach ts env).map (·.2)) vs) (PA X s Z H env Q) No s
  | [], [], _, σ, H, Q, s, Z, _, h, i, .nil => wpAny_assignInOrder_none ⟨Z, H, σ, .refl, i, h⟩
  | [], _ :: _, _, _, _, _, _, _, _, h, _, _ => h.elim
  | _ :: _, [], _, _, _, _, _, _, _, h, _, _ => h.elim
  | t :: ts, d :: ds, _, σ, H, Q, s, Z, hs, h, i, .cons (v := v) (vs := vs) r rs => by
    simp only [List.all_cons, Bool.and_eq_true] at hs
    rw [assignEach_plain hs.1]
    refine wpAny_assignInOrder_more (wpAny_mono (h s Z v i r) (fun _ s₁ p => ?_) fun _ _ f => f)
    obtain ⟨Z₁, H₁, σ₁, e₁, i₁, q₁⟩ := p
    exact wpAny_mono (assign_tAs hs.2 q₁ i₁ (rs.mono e₁.zle)) (fun _ s₂ p => p.trans e₁) fun _ _ f => f
theorem tA_tup {ts : List Expr} {k : Nat} {pos : Pos} {ds : List D} {Q : Sto → Hp → Prop} (hh : A.handled = none) (hs : ts.all noStar = true) (hn : ts.length = ds.length) (h : tAs X A env ts ds σ H Q) :
    tA X A env (.Tuple ts k pos) (.tup ds) σ H Q := fun s Z v i r => by
  cases r with
  | cont hz r =>
    cases r with
    | @tup _ vs ep _ hc hd rs =>
      refine wpAny_assign_Tuple hh ⟨_, i.ok.z _ _ hz, hc, ep, hd⟩ (by rw [(assignEach_len hs).1, hn, ← rs.length]; simp) (assignEach_len hs).2 fun h' he => ?_
      have k : ∀ b o, s.heap.get? b = some o → h'.get? b = some o := fun b o e => he b o (Nat.ne_of_lt (Heap.lt_size e)) e
      have e₁ : Ev s Z H nil { s with heap := h' } Z H := Ev.keeps (tk := s.toks) k
      exact wpAny_mono (assign_tAs hs h (i.step e₁ (i.ok.keeps (tk := s.toks) k)) rs) (fun _ s₂ p => p.trans e₁.any) fun _ _ f => f

/-! statements -/
theorem tS_nil {Q : Fl → Sto → Hp → Prop} (h : Q .next σ H) : tS X A env [] σ H Q := fun s Z i => wpAny_execs_nil ⟨Z, H, σ, .next, .refl, i, .next, h⟩
abbrev seqQ (X : Cx) (A : Around) (env : Env) (ss : List Stmt) (Q : Fl → Sto → Hp → Prop) : Fl → Sto → Hp → Prop := fun f σ₁ H₁ => match f with
  | .next => tS X A env ss σ₁ H₁ Q
  | f => Q f σ₁ H₁
theorem tS_cons {st : Stmt} {ss : List Stmt} {Q : Fl → Sto → Hp → Prop} (h : tX X A env st σ H (seqQ X A env ss Q)) : tS X A env (st :: ss) σ H Q := fun s Z i => by
  refine wpAny_execs_cons (wpAny_mono (h s Z i) (fun fl s₁ p => ?_) fun _ _ f => f)
  obtain ⟨Z₁, H₁, σ₁, f, e₁, i₁, r₁, q₁⟩ := p
  cases r₁ with
  | next => exact wpAny_mono (q₁ s₁ Z₁ i₁) (fun fl s₂ p => p.trans e₁) fun _ _ f => f
  | brk => exact ⟨Z₁, H₁, σ₁, .brk, e₁, i₁, .brk, q₁⟩
  | cont => exact ⟨Z₁, H₁, σ₁, .cont, e₁, i₁, .cont, q₁⟩
  | ret r => exact ⟨Z₁, H₁, σ₁, _, e₁, i₁, .ret r, q₁⟩
theorem tX_If {c : Expr} {a b : List Stmt} {pos : Pos} {Q : Fl → Sto → Hp → Prop} (h : tT X A env c σ H (fun t H₁ => if t then tS X A env a σ H₁ Q else tS X A env b σ H₁ Q)) : tX X A env (.If c a b pos) σ H Q := fun s Z i => by
  refine wpAny_If (wpAny_mono (h s Z i) (fun t s₁ p => ?_) fun _ _ f => f)
  obtain ⟨Z₁, H₁, e₁, o₁, q₁⟩ := p
  cases t
  · exact wpAny_mono (q₁ s₁ Z₁ (i.step e₁ o₁)) (fun fl s₂ p => p.trans e₁.any) fun _ _ f => f
  · exact wpAny_mono (q₁ s₁ Z₁ (i.step e₁ o₁)) (fun fl s₂ p => p.trans e₁.any) fun _ _ f => f
theorem tX_Return {e : Expr} {pos : Pos} {Q : Fl → Sto → Hp → Prop} (h : tE X A env e σ H (fun d H₁ => Q (.ret d) σ H₁)) : tX X A env (.Return (some e) pos) σ H Q := fun s Z i => by
  refine wpAny_Return_some (wpAny_mono (h s Z i) (fun v s₁ p => ?_) fun _ _ f => f)
  obtain ⟨Z₁, H₁, d, e₁, o₁, r₁, q₁⟩ := p
  exact ⟨Z₁, H₁, σ, .ret d, e₁.any, i.step e₁ o₁, .ret r₁, q₁⟩
theorem tX_Expr {e : Expr} {pos : Pos} {Q : Fl → Sto → Hp → Prop} (h : tE X A env e σ H (fun _ H₁ => Q .next σ H₁)) (hi : interactive env = false := by with_unfolding_all exact rfl) (hs : swapsWith e none pos.line env = pure false := by with_unfolding_all exact rfl) : tX X A env (.Expr e pos) σ H Q := fun s Z i => by
  refine wpAny_Expr_any (wpAny_mono (h s Z i) (fun v s₁ p => ?_) fun _ _ f => f) hi hs
  obtain ⟨Z₁, H₁, d, e₁, o₁, r₁, q₁⟩ := p
  exact ⟨Z₁, H₁, σ, .next, e₁.any, i.step e₁ o₁, .next, q₁⟩
theorem tX_Assign {t value : Expr} {pos : Pos} {Q : Fl → Sto → Hp → Prop} (h : tE X A env value σ H (fun d H₁ => tA X A env t d σ H₁ (fun σ₁ H₂ => Q .next σ₁ H₂)))
    (hs : swapsWithSole [t] value pos.line env = pure false := by with_unfolding_all exact rfl) (hw : swappedStores [t] value env = pure none := by with_unfolding_all exact rfl) (hp : noStar t = true := by with_unfolding_all exact rfl) : tX X A env (.Assign [t] value pos) σ H Q := fun s Z i => by
  refine wpAny_Assign_stores (wpAny_mono (h s Z i) (fun v s₁ p => ?_) fun _ _ f => f) hs hw
  obtain ⟨Z₁, H₁, d, e₁, o₁, r₁, q₁⟩ := p
  rw [assignEach_plain hp]
  show wpAny _ _ (assign t env v) _ _ _
  refine wpAny_mono (q₁ s₁ Z₁ v (i.step e₁ o₁) r₁) (fun _ s₂ p => ?_) fun _ _ f => f
  obtain ⟨Z₂, H₂, σ₂, e₂, i₂, q₂⟩ := p
  exact ⟨Z₂, H₂, σ₂, .next, e₁.any.trans e₂, i₂, .next, q₂⟩
end
end Mine

end

noncomputable section
open PySem PySem.W PySem.Calls PyProof.Rows
set_option maxHeartbeats 1000000
namespace Mine

noncomputable def Sub (H' H : Hp) : Prop := ∀ a d, H' a = some d → H a = some d
theorem Sub.refl (H : Hp) : Sub H H := fun _ _ e => e

noncomputable def retD : Fl → D
  | .ret d => d
  | _ => .none

section
variable {X : Cx} {A : Around} {s s' s'' : Shared} {Z Z' : ZMap} {H H' : Hp} {env : Env} {σ σ' : Sto}

theorem Rep.raw_eq {v u : Value} (r : Rep X Z v (.raw u)) : v = u := by
  cases r with
  | raw => rfl
  | cont _ r => cases r

/-- what a name holds is frozen -/
theorem tS_freeze {ss : List Stmt} {x : Str} {a : Addr} {d : D} {Q : Fl → Sto → Hp → Prop} (hx : σ x = some (.raw (.ref a))) (ha : H a = some d) (h : tS X A env ss (sput σ x d) (hdel H a) Q) : tS X A env ss σ H Q := fun s Z i => by
  obtain ⟨o, ho, r, hz, ok'⟩ := i.ok.freeze ha
  have e₁ : Ev s Z H nil s (zput Z a o) (hdel H a) := Ev.freeze ha hz
  have i₁ := i.step e₁ ok'
  have i₂ : Inv X s (zput Z a o) (hdel H a) env (sput σ x d) := by
    refine ⟨ok', i.eok, ?_, fun y c hy => ?_, i₁.own⟩
    · obtain ⟨m, hn, hm⟩ := i₁.loc
      refine ⟨m, hn, fun y hy => ?_⟩
      have q := hm y hy
      unfold sput
      split
      · rename_i w; subst w
        rw [hx] at q
        cases hmy : m y with
        | none => rw [hmy] at q; cases q
        | some v => rw [hmy] at q; cases q with | some q => rw [q.raw_eq]; exact .some (.cont zput_self (r.mono (zput_le hz)))
      · exact q
    · obtain ⟨ov, hv, q⟩ := i₁.cel y c hy
      refine ⟨ov, hv, ?_⟩
      unfold sput
      split
      · rename_i w; subst w
        rw [hx] at q
        cases q with | some q => rw [q.raw_eq]; exact .some (.cont zput_self (r.mono (zput_le hz)))
      · exact q
  exact wpAny_mono (h s _ i₂) (fun fl s₁ p => p.trans e₁.any) fun _ _ f => f
/-- what H says may be forgotten -/
theorem tS_forget {ss : List Stmt} {H₁ : Hp} {Q : Fl → Sto → Hp → Prop} (hs : Sub H₁ H) (h : tS X A env ss σ H₁ Q) : tS X A env ss σ H Q := fun s Z i => by
  have ok' := i.ok.forget hs
  have e₁ : Ev s Z H nil s Z H₁ := Ev.forget (Ev.refl (Z := Z)) hs
  exact wpAny_mono (h s Z (i.step e₁ ok')) (fun fl s₁ p => p.trans e₁.any) fun _ _ f => f

/-! the text's own defs -/
inductive SRep (X : Cx) (Z : ZMap) : Option Value → Option D → Prop
  | none : SRep X Z none none
  | some {v : Value} {d : D} : Rep X Z v d → SRep X Z (some v) (some d)
theorem SRep.opt {v : Option Value} {d : Option D} : SRep X Z v d → OptRep X Z v d
  | .none => .none
  | .some r => .some r
theorem lookup_repS : ∀ {names : List Str} {vs : List Value} {ds : List D}, Reps X Z vs ds → ∀ x, SRep X Z ((names.zip vs).reverse.lookup x) ((names.zip ds).reverse.lookup x)
  | [], _, _, _, x => by simp; exact .none
  | n :: names, _, _, .nil, x => by simp; exact .none
  | n :: names, _, _, .cons (v := v) (d := d) (vs := vs) (ds := ds) a r, x => by
    have ih := lookup_repS (names := names) r x
    simp only [List.zip_cons_cons, List.reverse_cons, List.lookup_append]
    generalize ((names.zip vs).reverse.lookup x) = p at ih
    generalize ((names.zip ds).reverse.lookup x) = q at ih
    cases ih with
    | some r => exact .some r
    | none =>
      simp only [Option.none_or, List.lookup_cons, List.lookup_nil]
      cases (x == n) <;> first | exact .none | exact .some a

theorem lookup_rep {names : List Str} {vs : List Value} {ds : List D} (r : Reps X Z vs ds) (x : Str) : OptRep X Z ((names.zip vs).reverse.lookup x) ((names.zip ds).reverse.lookup x) := (lookup_repS r x).opt

/-- Ev from a state before the frame was laid -/
theorem Ev.leave {s₁ s₂ : Shared} {Z₂ : ZMap} {H₂ : Hp} {O : Addr → Prop} (x : Ev s Z H nil s₁ Z H) (y : Ev s₁ Z H O s₂ Z₂ H₂) (h : ∀ a, O a → s.heap.get? a = none) : Ev s Z H nil s₂ Z₂ H₂ where
  same := by obtain ⟨_, _, rfl⟩ := x.same; obtain ⟨_, _, rfl⟩ := y.same; exact ⟨_, _, rfl⟩
  keep := fun a o e hh _ => y.keep a o (x.keep a o e hh id) hh fun q => by rw [h a q] at e; cases e
  grow := fun a e => x.grow a (y.grow a e)
  zle := y.zle
  znew := fun a hz hh e => y.znew a hz hh fun q => e (x.grow a q)
  hnew := fun a hh e => y.hnew a hh fun q => e (x.grow a q)

theorem Ok.none_z (x : Ok X s Z H) {a : Addr} (h : s.heap.get? a = none) : Z a = none := by
  cases q : Z a with | none => rfl | some o => rw [x.z a o q] at h; cases h
theorem Ok.none_h (x : Ok X s Z H) {a : Addr} (h : s.heap.get? a = none) : H a = none := by
  cases q : H a with | none => rfl | some d => obtain ⟨o, e, _⟩ := x.h a d q; rw [e] at h; cases h
theorem Ok.none_b (x : Ok X s Z H) {a : Addr} (h : s.heap.get? a = none) : X.base.get? a = none := by
  cases q : X.base.get? a with | none => rfl | some o => rw [x.base a o q] at h; cases h

noncomputable def argNames (params : Arguments) : List Str := params.args.map (·.arg)
/-- what a call's names hold at its start -/
noncomputable def sto0 (names : List Str) (ds : List D) : Sto := fun x => (names.zip ds).reverse.lookup x

abbrev retQ (Q : D → Hp → Prop) : Fl → Sto → Hp → Prop := fun fl _ H' => ∃ H'', Sub H'' H' ∧ Q (retD fl) H''
/-- a call's code -/
noncomputable def kC (X : Cx) (A : Around) (f : Value) (ds : List D) (H : Hp) (Q : D → Hp → Prop) : Prop :=
  ∀ s Z vs, Ok X s Z H → Reps X Z vs ds → codeAny X.M A (.call f ⟨vs, []⟩) (fun r s' => match r with | .ok (.ret v) => PE X s Z H Q v s' | .ok _ => False | .error e => No e s') s
theorem kC.toT {f : Value} {ds : List D} {Q : D → Hp → Prop} (h : kC X A f ds H Q) : tC X A f ds H Q := fun s Z vs i r => wpAny_call (h s Z vs i r)
theorem kC_def {f : Addr} {oc dV kV doc pm cdv ct : Value} {od an : Option Addr} {osl : Array (Option Value)} {name qual : Str} {params : Arguments} {body : List Stmt} {scope : Scope} {ds : List D} {Q : D → Hp → Prop}
    (ho : X.K.lookup f = some ⟨oc, od, .func (fnOf name qual params body scope dV kV doc pm an cdv ct), osl⟩) (hcd : codeIn X.K cdv qual = true) (hroom : A.depth < recursionLimit)
    (hbind : ∀ s (vs : List Value), (∀ b o, X.base.get? b = some o → s.heap.get? b = some o) → vs.length = ds.length → BindsTo s (fnOf name qual params body scope dV kV doc pm an cdv ct) ⟨vs, []⟩ ((argNames params).zip vs))
    (hloc : ∀ x ∈ argNames params, scope.names.lookup x = some .local)
    (h : ∀ L, let e0 := envOf qual scope L f cdv; let A0 := A.deeper e0; tS X A0 e0 body (sto0 (argNames params) ds) H (retQ Q))
    (hcell : ∀ x ∈ scope.names, x.2 ≠ .cell) (hco : scope.isCoroutine = false := by rfl) (hgen : scope.isGenerator = false := by rfl) (hk : scope.kind = .function := by rfl) : kC X A (.ref f) ds H Q := fun s Z vs i r => by
  refine (codeAny_call_def (fd := fnOf name qual params body scope dV kV doc pm an cdv ct) (body := body) hroom (i.base _ _ (X.kin _ _ ho)) rfl (X.lim.keeps i.base) (codeRec_of (X.kin.keeps i.base) hcd) rfl
    (hbind s vs i.base r.length) hcell (fun x hx => hloc x.1 (List.of_mem_zip hx).1) (fun h₁ hns hk₁ => ?_) hco hgen hk)
  show wpAny _ (A.deeper (envOf qual scope s.heap.objs.size f cdv)) (execs body (envOf qual scope s.heap.objs.size f cdv)) _ _ _
  have hL : s.heap.get? s.heap.objs.size = none := Heap.get?_none_of_le (Nat.le_refl _)
  have e₁ : Ev s Z H nil { s with heap := h₁, toks := s.toks + ((argNames params).zip vs).length } Z H := .keeps hk₁
  have ok₁ := i.keeps (tk := s.toks + ((argNames params).zip vs).length) hk₁
  have i₁ : Inv X { s with heap := h₁, toks := s.toks + ((argNames params).zip vs).length } Z H (envOf qual scope s.heap.objs.size f cdv) (sto0 (argNames params) ds) := by
    refine ⟨ok₁, ⟨hk, rfl, rfl, fun _ _ _ e => (by cases e), fun _ _ e => (by cases e)⟩, ⟨_, hns, fun x _ => lookup_rep r x⟩, fun x c e => (by cases e), fun a ha => ?_⟩
    rcases ha with rfl | ⟨x, e⟩
    · exact ⟨i.none_z hL, i.none_h hL, i.none_b hL⟩
    · cases e
  refine wpAny_mono (h _ _ Z i₁) (fun fl s₂ p => ?_) fun _ _ f => f.elim
  obtain ⟨Z₂, H₂, σ₂, f', e₂, i₂, r₂, H₃, hs, q⟩ := p
  have e₃ : Ev s Z H nil s₂ Z₂ H₃ := (e₁.leave e₂ fun a ha => by
    rcases ha with rfl | ⟨x, e⟩
    · exact hL
    · cases e).forget hs
  refine ⟨Z₂, H₃, retD f', e₃, i₂.ok.forget hs, ?_, q⟩
  cases r₂ with
  | ret r => exact r
  | _ => exact .none

theorem tC_def {f : Addr} {oc dV kV doc pm cdv ct : Value} {od an : Option Addr} {osl : Array (Option Value)} {name qual : Str} {params : Arguments} {body : List Stmt} {scope : Scope} {ds : List D} {Q : D → Hp → Prop}
    (ho : X.K.lookup f = some ⟨oc, od, .func (fnOf name qual params body scope dV kV doc pm an cdv ct), osl⟩) (hcd : codeIn X.K cdv qual = true) (hroom : A.depth < recursionLimit)
    (hbind : ∀ s (vs : List Value), (∀ b o, X.base.get? b = some o → s.heap.get? b = some o) → vs.length = ds.length → BindsTo s (fnOf name qual params body scope dV kV doc pm an cdv ct) ⟨vs, []⟩ ((argNames params).zip vs))
    (hloc : ∀ x ∈ argNames params, scope.names.lookup x = some .local)
    (h : ∀ L, let e0 := envOf qual scope L f cdv; let A0 := A.deeper e0; tS X A0 e0 body (sto0 (argNames params) ds) H (retQ Q))
    (hcell : ∀ x ∈ scope.names, x.2 ≠ .cell) (hco : scope.isCoroutine = false := by rfl) (hgen : scope.isGenerator = false := by rfl) (hk : scope.kind = .function := by rfl) : tC X A (.ref f) ds H Q :=
  (kC_def ho hcd hroom hbind hloc h hcell hco hgen hk).toT

theorem bindL_get {k : Str → Option NameKind} {x : Str} (hx : k x = some .local) : ∀ (binds : List (Str × Value)) (m : Str → Option Value), bindL k binds m x = (binds.reverse.lookup x).or (m x)
  | [], m => rfl
  | (n, v) :: r, m => by
    unfold bindL
    rw [bindL_get hx r, List.reverse_cons, List.lookup_append, Option.or_assoc]
    congr 1
    by_cases h : n = x
    · subst h; rw [if_pos hx]; simp
    · have h' : (x == n) = false := by simp; exact fun e => h e.symm
      rw [List.lookup_cons, h']
      by_cases hk : k n = some .local
      · rw [if_pos hk]; simp; exact fun e => absurd e.symm h
      · rw [if_neg hk]; simp
theorem bindC_get {k : Str → Option NameKind} {x : Str} (hx : k x ≠ some .local) : ∀ (binds : List (Str × Value)) (m : Str → Option Value), bindC k binds m x = (binds.reverse.lookup x).or (m x)
  | [], m => rfl
  | (n, v) :: r, m => by
    unfold bindC
    rw [bindC_get hx r, List.reverse_cons, List.lookup_append, Option.or_assoc]
    congr 1
    by_cases h : n = x
    · subst h; rw [if_neg hx]; simp
    · have h' : (x == n) = false := by simp; exact fun e => h e.symm
      rw [List.lookup_cons, h']
      by_cases hk : k n = some .local
      · rw [if_pos hk]; simp
      · rw [if_neg hk]; simp; exact fun e => absurd e.symm h

theorem tC_defC {f : Addr} {oc dV kV doc pm cdv ct : Value} {od an : Option Addr} {osl : Array (Option Value)} {name qual : Str} {params : Arguments} {body : List Stmt} {scope : Scope} {ds : List D} {Q : D → Hp → Prop}
    (ho : X.K.lookup f = some ⟨oc, od, .func (fnOf name qual params body scope dV kV doc pm an cdv ct), osl⟩) (hcd : codeIn X.K cdv qual = true) (hroom : A.depth < recursionLimit)
    (hbind : ∀ (vs : List Value), vs.length = ds.length → bindArgs (fnOf name qual params body scope dV kV doc pm an cdv ct) ⟨vs, []⟩ = pure ((argNames params).zip vs))
    (hloc : ((argNames params).all fun x => scope.names.lookup x == some .local || (scope.names.lookup x == some .cell && ((cellsFrom 0 scope.names []).map (·.1)).contains x)) = true)
    (hcl : (((cellsFrom 0 scope.names []).map (·.1)).all fun x => scope.names.lookup x == some .cell) = true)
    (h : ∀ L, let e0 := envOfC qual scope L f cdv; let A0 := A.deeper e0; tS X A0 e0 body (sto0 (argNames params) ds) H (retQ Q))
    (hco : scope.isCoroutine = false := by rfl) (hgen : scope.isGenerator = false := by rfl) (hk : scope.kind = .function := by rfl) : tC X A (.ref f) ds H Q := fun s Z vs i r => by
  have hnames : ∀ n, (cellsFrom n scope.names []).map (·.1) = (cellsFrom 0 scope.names []).map (·.1) := fun n => cellsFrom_names scope.names n 0 [] [] rfl
  have hcell : ∀ n x c, (cellsFrom n scope.names []).lookup x = some c → scope.names.lookup x = some .cell := fun n x c e => by
    have m : x ∈ (cellsFrom 0 scope.names []).map (·.1) := hnames n ▸ List.mem_map.mpr ⟨(x, c), mem_of_lookup e, rfl⟩
    simpa using List.all_eq_true.mp hcl x m
  have hsome : ∀ n x, x ∈ (cellsFrom 0 scope.names []).map (·.1) → ((cellsFrom n scope.names []).lookup x).isSome = true := fun n x m => by
    rw [← hnames n] at m
    obtain ⟨⟨y, c⟩, hm, rfl⟩ := List.mem_map.mp m
    cases q : (cellsFrom n scope.names []).lookup y with
    | some _ => rfl
    | none =>
      have := List.lookup_eq_none_iff.mp q _ hm
      simp at this
  refine wpAny_call (codeAny_call_cells (fd := fnOf name qual params body scope dV kV doc pm an cdv ct) (body := body) (binds := (argNames params).zip vs) hroom (i.base _ _ (X.kin _ _ ho)) rfl (X.lim.keeps i.base) (codeRec_of (X.kin.keeps i.base) hcd) rfl
    (hbind vs r.length) rfl (fun x hx => ?_) (fun s₁ x => ?_) hco hgen hk)
  · have := List.all_eq_true.mp hloc x.1 (List.of_mem_zip hx).1
    simp only [Bool.or_eq_true, Bool.and_eq_true, beq_iff_eq, List.contains_iff_mem] at this
    exact this.imp id fun y => ⟨y.1, hsome _ _ y.2⟩
  show wpAny _ (A.deeper (envOfC qual scope s.heap.objs.size f cdv)) (execs body (envOfC qual scope s.heap.objs.size f cdv)) _ _ _
  obtain ⟨h₁, tk, rfl, hk₁⟩ := x.done
  have hfresh : ∀ a, s.heap.objs.size ≤ a → s.heap.get? a = none := fun a ha => Heap.get?_none_of_le ha
  have e₁ : Ev s Z H nil { s with heap := h₁, toks := tk } Z H := .keeps hk₁
  have ok₁ := i.keeps (tk := tk) hk₁
  have hown : ∀ a, ownA (envOfC qual scope s.heap.objs.size f cdv) a → s.heap.get? a = none := fun a ha => by
    rcases ha with rfl | ⟨y, e⟩
    · exact hfresh _ (Nat.le_refl _)
    · exact hfresh _ (Nat.le_of_lt (x.above y a (mem_of_lookup e)))
  have i₁ : Inv X { s with heap := h₁, toks := tk } Z H (envOfC qual scope s.heap.objs.size f cdv) (sto0 (argNames params) ds) := by
    refine ⟨ok₁, ⟨hk, rfl, rfl, fun y z c e e' => name_of_addr x.apart (mem_of_lookup e) (mem_of_lookup e'), fun y c e => Nat.ne_of_gt (x.above y c (mem_of_lookup e))⟩, ⟨_, x.toInCall.ns, fun y hy => ?_⟩, fun y c e => ⟨_, x.cell y c e, ?_⟩, fun a ha => ?_⟩
    · have hy : (callEnvC (fnOf name qual params body scope dV kV doc pm an cdv ct) s.heap.objs.size f).kindOf y = some .local := hy
      rw [bindL_get hy]
      have := lookup_rep (names := argNames params) r y
      rw [Option.or_none]; exact this
    · have hy : (callEnvC (fnOf name qual params body scope dV kV doc pm an cdv ct) s.heap.objs.size f).kindOf y ≠ some .local := by
        show scope.names.lookup y ≠ some .local
        rw [hcell _ y c e]; decide
      rw [bindC_get hy, Option.or_none]
      exact lookup_rep (names := argNames params) r y
    · have q := hown a ha
      exact ⟨i.none_z q, i.none_h q, i.none_b q⟩
  refine wpAny_mono (h _ _ Z i₁) (fun fl s₂ p => ?_) fun _ _ f => f.elim
  obtain ⟨Z₂, H₂, σ₂, f', e₂, i₂, r₂, H₃, hs, q⟩ := p
  have e₃ : Ev s Z H nil s₂ Z₂ H₃ := (e₁.leave e₂ hown).forget hs
  refine ⟨Z₂, H₃, retD f', e₃, i₂.ok.forget hs, ?_, q⟩
  cases r₂ with
  | ret r => exact r
  | _ => exact .none
end
end Mine

end

noncomputable section
open PySem PySem.W PySem.Calls PyProof.Rows
set_option maxHeartbeats 1000000
namespace Mine

section
variable {X : Cx} {A : Around} {s s' s'' : Shared} {Z Z' : ZMap} {H H' : Hp} {env : Env} {σ σ' : Sto}

/-- an iterator that yields ds -/
inductive ItOk (X : Cx) (A : Around) (s₀ : Shared) (it : Value) (s : Shared) (Z : ZMap) (ds : List D) : Prop
  | mk (I) (fp) (wr) (P) (St) (e : it = .ref I) (W : Walks X.prog X.w A I fp wr ds.length P St) (hst : St 0 s.heap) (hP : ∀ i v, P i v → ∃ d, ds[i]? = some d ∧ Rep X Z v d)
    (hwr : ∀ b ∈ wr, s₀.heap.get? b = none) (hfp : ∀ b ∈ fp, b ∈ wr ∨ Z b ≠ none) (hhas : ∀ i h', St i h' → ∀ b ∈ wr, h'.get? b ≠ none)
inductive PI (X : Cx) (A : Around) (s : Shared) (Z : ZMap) (H : Hp) (G : List D → Prop) (it : Value) (s' : Shared) : Prop
  | mk (ds : List D) (e : Ev s Z H nil s' Z H) (o : Ok X s' Z H) (i : ItOk X A s it s' Z ds) (g : G ds)
noncomputable def tIt (X : Cx) (A : Around) (d : D) (H : Hp) (G : List D → Prop) : Prop :=
  ∀ s Z v, Ok X s Z H → Rep X Z v d → wpAny X.M A (pyIter v) (PI X A s Z H G) No s

noncomputable def LF (X : Cx) (A : Around) (env : Env) (target : Expr) (body : List Stmt) (Q : Fl → Sto → Hp → Prop) : List D → Sto → Hp → Prop
  | [], σ, H => Q .next σ H
  | d :: ds, σ, H => tA X A env target d σ H (fun σ₁ H₁ => tS X A env body σ₁ H₁ (fun f σ₂ H₂ => match f with
    | .next => LF X A env target body Q ds σ₂ H₂
    | .cont => LF X A env target body Q ds σ₂ H₂
    | .brk => Q .next σ₂ H₂
    | .ret d => Q (.ret d) σ₂ H₂))
noncomputable def LW (X : Cx) (A : Around) (env : Env) (test : Expr) (body : List Stmt) (Q : Fl → Sto → Hp → Prop) : Nat → Sto → Hp → Prop
  | 0, _, _ => False
  | n + 1, σ, H => tT X A env test σ H (fun t H₁ => if t then tS X A env body σ H₁ (fun f σ₂ H₂ => match f with
    | .next => LW X A env test body Q n σ₂ H₂
    | .cont => LW X A env test body Q n σ₂ H₂
    | .brk => Q .next σ₂ H₂
    | .ret d => Q (.ret d) σ₂ H₂) else Q .next σ H₁)

theorem Ok.wr (i : Ok X s Z H) {wr : List Addr} (hw : ∀ b ∈ wr, Z b = none ∧ H b = none ∧ X.base.get? b = none) {h' : Heap} {tk : Nat} (k : ∀ b o, b ∉ wr → s.heap.get? b = some o → h'.get? b = some o) :
    Ok X { s with heap := h', toks := tk } Z H :=
  ⟨fun b o e => k b o (fun q => by rw [(hw b q).2.2] at e; cases e) (i.base b o e), fun a o e => k a o (fun q => by rw [(hw a q).1] at e; cases e) (i.z a o e),
    fun a d e => let ⟨o, ho, r⟩ := i.h a d e; ⟨o, k a o (fun q => by rw [(hw a q).2.1] at e; cases e) ho, r⟩, i.sep, i.low⟩
theorem Inv.wr (i : Inv X s Z H env σ) {wr : List Addr} (hw : ∀ b ∈ wr, Z b = none ∧ H b = none ∧ X.base.get? b = none ∧ ¬ ownA env b) {h' : Heap} {tk : Nat} (k : ∀ b o, b ∉ wr → s.heap.get? b = some o → h'.get? b = some o) :
    Inv X { s with heap := h', toks := tk } Z H env σ where
  ok := i.ok.wr (fun b hb => ⟨(hw b hb).1, (hw b hb).2.1, (hw b hb).2.2.1⟩) k
  eok := i.eok
  loc := by
    obtain ⟨m, hn, hm⟩ := i.loc
    exact ⟨m, hn.at' fun o e => k _ o (fun q => (hw _ q).2.2.2 (.inl rfl)) e, hm⟩
  cel := fun x c hc => by
    obtain ⟨ov, ⟨o, ho, hd⟩, r⟩ := i.cel x c hc
    exact ⟨ov, ⟨o, k _ o (fun q => (hw _ q).2.2.2 (.inr ⟨x, hc⟩)) ho, hd⟩, r⟩
  own := i.own
/-- what is newer than the state does not count -/
theorem Ev.wr {O : Addr → Prop} {s₁ : Shared} {Z₁ : ZMap} {H₁ : Hp} (e : Ev s₁ Z₁ H₁ O s Z H) {wr : List Addr} (hn : ∀ b ∈ wr, s₁.heap.get? b = none) {h' : Heap} {tk : Nat} (k : ∀ b o, b ∉ wr → s.heap.get? b = some o → h'.get? b = some o) :
    Ev s₁ Z₁ H₁ O { s with heap := h', toks := tk } Z H where
  same := by obtain ⟨_, _, rfl⟩ := e.same; exact ⟨_, _, rfl⟩
  keep := fun a o ho hh hOa => k a o (fun q => by rw [hn a q] at ho; cases ho) (e.keep a o ho hh hOa)
  grow := fun a ha => by
    by_cases q : a ∈ wr
    · exact hn a q
    · refine e.grow a ?_
      cases w : s.heap.get? a with
      | none => rfl
      | some o => have := k a o q w; rw [show ({ s with heap := h', toks := tk } : Shared).heap.get? a = h'.get? a from rfl, this] at ha; cases ha
  zle := e.zle
  znew := e.znew
  hnew := e.hnew

theorem tX_For {target iter : Expr} {body : List Stmt} {pos : Pos} {Q : Fl → Sto → Hp → Prop} (h : tE X A env iter σ H (fun d H₁ => tIt X A d H₁ (fun ds => LF X A env target body Q ds σ H₁)))
    (ht : ∀ it v, letOwnedTupleGo target it v = pure () := by intro _ _; rfl) (hs : ∀ x, foldedSetIterable iter env x = pure x := by intro _; rfl) : tX X A env (.For target iter body [] pos) σ H Q := fun s Z i => by
  refine wpAny_For (wpAny_mono (h s Z i) (fun x s₀ p => ?_) fun _ _ f => f) hs
  obtain ⟨Z₀, H₀, d, e₀, o₀, r₀, q₀⟩ := p
  have i₀ := i.step e₀ o₀
  refine wpAny_mono (q₀ s₀ Z₀ x o₀ r₀) (fun it s₁ p => ?_) fun _ _ f => f
  obtain ⟨ds, e₁, o₁, ⟨I, fp, wr, P, St, rfl, W, hst, hP, hwr, hfp, hhas⟩, q₁⟩ := p
  have i₁ := i₀.step e₁ o₁
  have hwO : ∀ b ∈ wr, ¬ ownA env b := fun b hb q => i₀.has q (hwr b hb)
  refine codeAny_mono (codeAny_forLoop (R := fun r s' => match r with | .ok f => PS X s₀ Z₀ H₀ env Q f s' | .error e => False)
    (fun n s' => ∃ j Z' H' σ', j ≤ ds.length ∧ n = ds.length + 1 - j ∧ Ev s₀ Z₀ H₀ (ownA env) s' Z' H' ∧ Inv X s' Z' H' env σ' ∧ (∀ b ∈ wr, Z' b = none ∧ H' b = none) ∧ St j s'.heap ∧ LF X A env target body Q (ds.drop j) σ' H') ?_ (ds.length + 1)
      ⟨0, Z₀, H₀, σ, Nat.zero_le _, rfl, e₁.any, i₁, fun b hb => ⟨o₀.none_z (hwr b hb), o₀.none_h (hwr b hb)⟩, hst, q₁⟩ (ht _)) fun r s' hr => ?_
  · rintro n s₂ ⟨j, Z₂, H₂, σ₂, hj, rfl, e₂, i₂, hw, hst₂, q₂⟩
    have hw₂ : ∀ b ∈ wr, Z₂ b = none ∧ H₂ b = none ∧ X.base.get? b = none ∧ ¬ ownA env b := fun b hb => ⟨(hw b hb).1, (hw b hb).2, o₀.none_b (hwr b hb), hwO b hb⟩
    by_cases hlt : j < ds.length
    · refine W.item j s₂ _ _ hlt hst₂ fun v h' tk hv hst₃ hk => ?_
      obtain ⟨dj, hdj, rv⟩ := hP j v hv
      have i₃ : Inv X { s₂ with heap := h', toks := tk } Z₂ H₂ env σ₂ := i₂.wr hw₂ hk
      have e₃ : Ev s₀ Z₀ H₀ (ownA env) { s₂ with heap := h', toks := tk } Z₂ H₂ := e₂.wr hwr hk
      rw [List.drop_eq_getElem_cons hlt] at q₂
      have hdj' : ds[j] = dj := by rw [List.getElem?_eq_getElem hlt] at hdj; exact Option.some.inj hdj
      rw [hdj'] at q₂
      refine wpAny_mono (q₂ _ Z₂ v i₃ (rv.mono e₂.zle)) (fun _ s₄ p => ?_) fun _ _ f => f.elim
      obtain ⟨Z₄, H₄, σ₄, e₄, i₄, q₄⟩ := p
      refine wpAny_mono (q₄ s₄ Z₄ i₄) (fun fl s₅ p => ?_) fun _ _ f => f.elim
      obtain ⟨Z₅, H₅, σ₅, f, e₅, i₅, r₅, q₅⟩ := p
      have e45 := e₄.trans e₅
      have e15 := e₃.trans e45
      have hst₅ : St (j + 1) s₅.heap := W.frame _ _ _ hst₃ fun b hb o ho => by
        refine e45.keep b o ho ?_ ?_
        · rcases hfp b hb with q | q
          · exact (hw b q).2
          · cases w : H₂ b with
            | none => rfl
            | some d' =>
              have := (i₂.ok.sep b (by rw [w]; simp)).1
              cases w' : Z₀ b with
              | none => exact absurd w' q
              | some o' => rw [e₂.zle b o' w'] at this; cases this
        · intro hO
          rcases hfp b hb with q | q
          · exact hwO b q hO
          · exact q (i₀.own b hO).1
      have hw₅ : ∀ b ∈ wr, Z₅ b = none ∧ H₅ b = none := fun b hb => ⟨e45.znew b (hw b hb).1 (hw b hb).2 (hhas _ _ hst₃ b hb), e45.hnew b (hw b hb).2 (hhas _ _ hst₃ b hb)⟩
      cases r₅ with
      | next => exact ⟨_, by omega, j + 1, Z₅, H₅, σ₅, hlt, rfl, e15, i₅, hw₅, hst₅, q₅⟩
      | cont => exact ⟨_, by omega, j + 1, Z₅, H₅, σ₅, hlt, rfl, e15, i₅, hw₅, hst₅, q₅⟩
      | brk => exact ⟨Z₅, H₅, σ₅, .next, e15, i₅, .next, q₅⟩
      | ret r => exact ⟨Z₅, H₅, σ₅, _, e15, i₅, .ret r, q₅⟩
    · have hj' : j = ds.length := by omega
      subst hj'
      rw [List.drop_length] at q₂
      refine W.done s₂ _ _ hst₂ fun h' tk hk => ?_
      have i₃ : Inv X { s₂ with heap := h', toks := tk } Z₂ H₂ env σ₂ := i₂.wr hw₂ hk
      have e₃ : Ev s₀ Z₀ H₀ (ownA env) { s₂ with heap := h', toks := tk } Z₂ H₂ := e₂.wr hwr hk
      exact wpAny_execs_nil ⟨Z₂, H₂, σ₂, .next, e₃, i₃, .next, q₂⟩
  · cases r with
    | ok f => exact hr.trans e₀.any
    | error e => exact hr.elim

theorem tX_While {test : Expr} {body : List Stmt} {pos : Pos} {Q : Fl → Sto → Hp → Prop} (n : Nat) (h : LW X A env test body Q n σ H) : tX X A env (.While test body [] pos) σ H Q := fun s Z i => by
  refine wpAny_While (codeAny_mono (codeAny_whileLoop (R := fun r s' => match r with | .ok f => PS X s Z H env Q f s' | .error e => False)
    (fun n s' => ∃ Z' H' σ', Ev s Z H (ownA env) s' Z' H' ∧ Inv X s' Z' H' env σ' ∧ LW X A env test body Q n σ' H') ?_ n ⟨Z, H, σ, .refl, i, h⟩) fun r s' hr => ?_)
  · rintro n s₁ ⟨Z₁, H₁, σ₁, e₁, i₁, q₁⟩
    cases n with
    | zero => exact q₁.elim
    | succ n =>
      refine wpAny_mono (q₁ s₁ Z₁ i₁) (fun t s₂ p => ?_) fun _ _ f => f.elim
      obtain ⟨Z₂, H₂, e₂, o₂, q₂⟩ := p
      have i₂ := i₁.step e₂ o₂
      have e12 := e₁.trans e₂.any
      cases t with
      | false => exact wpAny_execs_nil ⟨Z₂, H₂, σ₁, .next, e12, i₂, .next, q₂⟩
      | true =>
        refine wpAny_mono (q₂ s₂ Z₂ i₂) (fun fl s₃ p => ?_) fun _ _ f => f.elim
        obtain ⟨Z₃, H₃, σ₃, f, e₃, i₃, r₃, q₃⟩ := p
        have e13 := e12.trans e₃
        cases r₃ with
        | next => exact ⟨n, Nat.lt_succ_self n, Z₃, H₃, σ₃, e13, i₃, q₃⟩
        | cont => exact ⟨n, Nat.lt_succ_self n, Z₃, H₃, σ₃, e13, i₃, q₃⟩
        | brk => exact ⟨Z₃, H₃, σ₃, .next, e13, i₃, .next, q₃⟩
        | ret r => exact ⟨Z₃, H₃, σ₃, _, e13, i₃, .ret r, q₃⟩
  · cases r with
    | ok f => exact hr
    | error e => exact hr.elim
end
end Mine

end

noncomputable section
open PySem PySem.W PySem.Calls PyProof.Rows
set_option maxHeartbeats 1000000
namespace Mine

section
variable {X : Cx} {A : Around} {s s' s'' : Shared} {Z Z' : ZMap} {H H' : Hp} {env : Env} {σ σ' : Sto}

/-- the cells that a comprehension's frame sees -/
noncomputable def clOf (scope : Scope) (env : Env) : List (Str × Addr) → List (Str × NameKind) → List (Str × Addr)
  | cs, [] => cs
  | cs, (n, k) :: r => if k == .free then (match env.cells.lookup n with | some a => clOf scope env ((n, a) :: cs) r | none => clOf scope env cs r) else clOf scope env cs r
theorem closureFor_of {scope : Scope} (h : ∀ x ∈ scope.names, x.2 = .free → (env.cells.lookup x.1).isSome = true) : closureFor scope env = pure (clOf scope env [] scope.names) := by
  unfold closureFor
  have key : ∀ (l : List (Str × NameKind)) (cs : List (Str × Addr)), (∀ x ∈ l, x.2 = .free → (env.cells.lookup x.1).isSome = true) →
      (forIn l cs (fun (x : Str × NameKind) (r : List (Str × Addr)) => match x with | (name, kind) => if (kind == NameKind.free) = true then (do let a ← cellOf env name; pure (ForInStep.yield ((name, a) :: r))) else pure (ForInStep.yield r)) : Sem _) = pure (clOf scope env cs l) := by
    intro l
    induction l with
    | nil => intro cs _; rfl
    | cons x l ih =>
      intro cs hl
      obtain ⟨n, k⟩ := x
      rw [List.forIn_cons]
      have hr := fun y hy => hl y (List.mem_cons_of_mem _ hy)
      unfold clOf
      by_cases hk : (k == NameKind.free) = true
      · have hsome := hl (n, k) List.mem_cons_self (by simpa using hk)
        obtain ⟨a, ha⟩ := Option.isSome_iff_exists.mp hsome
        have ha' : env.cells.lookup n = some a := ha
        simp only [hk, if_true, ha']
        have hc : cellOf env n = pure a := by unfold cellOf; rw [ha']
        rw [hc]
        exact ih _ hr
      · simp only [hk]
        exact ih _ hr
  exact congrArg (fun t => t >>= fun r => pure r) (key scope.names [] h) |>.trans rfl
theorem clOf_sub {scope : Scope} : ∀ (l : List (Str × NameKind)) (cs : List (Str × Addr)), (∀ x c, cs.lookup x = some c → env.cells.lookup x = some c) → ∀ x c, (clOf scope env cs l).lookup x = some c → env.cells.lookup x = some c
  | [], cs, h, x, c, e => h x c e
  | (n, k) :: r, cs, h, x, c, e => by
    unfold clOf at e
    split at e
    · split at e
      · rename_i a ha
        refine clOf_sub r _ (fun y c' e' => ?_) x c e
        rw [List.lookup_cons] at e'
        cases q : (y == n) with
        | true => rw [q] at e'; cases e'; rw [eq_of_beq q]; exact ha
        | false => rw [q] at e'; exact h y c' e'
      · exact clOf_sub r _ h x c e
    · exact clOf_sub r _ h x c e

/-- the frame of a comprehension -/
noncomputable def cEnv (scope : Scope) (env : Env) (C : Addr) : Env := compEnvC scope (clOf scope env [] scope.names) C env
noncomputable def cSto (scope : Scope) (env : Env) (σ : Sto) : Sto := fun x => match (clOf scope env [] scope.names).lookup x with
  | some _ => σ x
  | none => none

noncomputable def tIfs (X : Cx) (A : Around) (env : Env) (ifs : List Expr) (σ : Sto) (H : Hp) (Q : Bool → Hp → Prop) : Prop := match ifs with
  | [] => Q true H
  | [c] => tT X A env c σ H Q
  | _ => False
theorem tests_tIfs {ifs : List Expr} {Q : Bool → Hp → Prop} (h : tIfs X A env ifs σ H Q) (i : Inv X s Z H env σ) :
    wpAny X.M A (forIn ifs true fun c r => if r = true then do let ok ← isTrue c env (eval c env); pure (ForInStep.yield ok) else pure (ForInStep.yield r)) (PB X s Z H Q) No s := by
  match ifs, h with
  | [], h => exact wpAny_tests_nil (.now i.ok h)
  | [c], h => exact wpAny_tests_one (h s Z i)

noncomputable def LC (X : Cx) (A : Around) (env : Env) (x : Str) (ifs : List Expr) (elt : Expr) (σ : Sto) (Q : List D → Hp → Prop) : List D → List D → Hp → Prop
  | [], acc, H => Q acc H
  | d :: ds, acc, H => tIfs X A env ifs (sput σ x d) H (fun ok H₂ => if ok then tE X A env elt (sput σ x d) H₂ (fun e H₃ => LC X A env x ifs elt σ Q ds (acc ++ [e]) H₃) else LC X A env x ifs elt σ Q ds acc H₂)

/-- a turn of a comprehension's loop -/
theorem compLoop_gen {e : Expr} {depth : Nat} {it acc : Value} {target : Expr} {ifs : List Expr} {ip : Pos} {emit : Sem Unit} {R : Result → Shared → Prop} {s : Shared} (I : Nat → Shared → Prop)
    (heq : compTurn e depth it acc env = (do
      standAt ip
      match ← pyNext it with
      | none => pure (.done .next)
      | some v =>
        letOwnedTupleGo target it v
        assign target env v
        let mut ok := true
        for c in ifs do
          if ok then ok ← isTrue c env (eval c env)
        if ok then emit
        again (.compLoop e depth it acc env)))
    (hfr : (Code.compLoop e depth it acc env).isFrame = false)
    (hq : (Code.compLoop e depth it acc env).quiet = true) (hA : A.under (Code.compLoop e depth it acc env) = A)
    (turn : ∀ n s, I n s → wpAny X.M A (pyNext it) (fun r s₁ => match r with
      | none => R (.ok .next) s₁
      | some v => wpAny X.M A (assign target env v) (fun _ s₂ =>
          wpAny X.M A (forIn ifs true fun c r => if r = true then do let ok ← isTrue c env (eval c env); pure (ForInStep.yield ok) else pure (ForInStep.yield r)) (fun ok s₃ =>
            if ok = true then wpAny X.M A emit (fun _ s₅ => ∃ m, m < n ∧ I m s₅) No s₃
            else ∃ m, m < n ∧ I m s₃) No s₂) No s₁) No s)
    (n : Nat) (h : I n s) (ht : ∀ v, letOwnedTupleGo target it v = pure () := by intro _; rfl) :
    codeAny X.M A (.compLoop e depth it acc env) R s := by
  refine codeAny_loop hq I (fun n s hI => ?_) n h
  rw [hA]
  show wpAny _ A (if (Code.compLoop e depth it acc env).isFrame then _ else ((compTurn e depth it acc env).onRaise (fun x => do noteFrame x env; theTreesLotGoes x))) _ _ s
  rw [hfr]
  simp only [Bool.false_eq_true, if_false]
  refine wpAny_noted ?_
  rw [heq]
  refine wpAny_bind (wpAny_standAt (wpAny_bind (wpAny_mono (turn n s hI) (fun r s₁ h₁ => ?_) fun _ _ f => f.elim)))
  cases r with
  | none => exact wpAny_pure h₁
  | some v =>
    refine wpAny_bind (wpAny_of_eq (ht v) ?_)
    refine wpAny_bind (wpAny_mono h₁ (fun _ s₂ h₂ => wpAny_bind (wpAny_mono h₂ (fun ok s₃ h₃ => ?_) fun _ _ f => f.elim)) fun _ _ f => f.elim)
    cases ok with
    | false => exact wpAny_pure ⟨rfl, h₃⟩
    | true => exact wpAny_bind (wpAny_mono h₃ (fun _ s₅ h₅ => wpAny_pure ⟨rfl, h₅⟩) fun _ _ f => f.elim)

/-- the state within a comprehension: what stands since s₀, the frame, the list in the making -/
structure CS (X : Cx) (s₀ : Shared) (Z₀ : ZMap) (H₀ : Hp) (env : Env) (σ : Sto) (Dl : Addr) (s : Shared) (Z : ZMap) (H : Hp) (acc : List D) : Prop where
  ev : Ev s₀ Z₀ H₀ nil s Z H
  inv : Inv X s Z H env σ
  lst : ∃ vs, s.heap.PlainList Dl vs ∧ Reps X Z vs.toList acc
  free : Z Dl = none ∧ H Dl = none ∧ X.base.get? Dl = none ∧ s₀.heap.get? Dl = none ∧ ¬ ownA env Dl
  freshC : s₀.heap.get? env.locals = none
theorem CS.step {s₀ : Shared} {Z₀ : ZMap} {H₀ : Hp} {Dl : Addr} {acc : List D} (c : CS X s₀ Z₀ H₀ env σ Dl s Z H acc) (e : Ev s Z H nil s' Z' H') (o : Ok X s' Z' H') : CS X s₀ Z₀ H₀ env σ Dl s' Z' H' acc := by
  obtain ⟨vs, hl, r⟩ := c.lst
  obtain ⟨n, hol⟩ := id hl
  have hn : s.heap.get? Dl ≠ none := by rw [hol]; simp
  exact ⟨c.ev.trans e, c.inv.step e o, ⟨vs, ⟨n, e.keep _ _ hol c.free.2.1 id⟩, r.mono e.zle⟩, ⟨e.znew _ c.free.1 c.free.2.1 hn, e.hnew _ c.free.2.1 hn, c.free.2.2⟩, c.freshC⟩
theorem CS.wr {s₀ : Shared} {Z₀ : ZMap} {H₀ : Hp} {Dl : Addr} {acc : List D} (c : CS X s₀ Z₀ H₀ env σ Dl s Z H acc) {wr : List Addr} (hw : ∀ b ∈ wr, Z b = none ∧ H b = none ∧ X.base.get? b = none ∧ ¬ ownA env b ∧ s₀.heap.get? b = none ∧ b ≠ Dl)
    {h' : Heap} {tk : Nat} (k : ∀ b o, b ∉ wr → s.heap.get? b = some o → h'.get? b = some o) : CS X s₀ Z₀ H₀ env σ Dl { s with heap := h', toks := tk } Z H acc := by
  obtain ⟨vs, ⟨ol, hol⟩, r⟩ := c.lst
  exact ⟨c.ev.wr (fun b hb => (hw b hb).2.2.2.2.1) k, c.inv.wr (fun b hb => ⟨(hw b hb).1, (hw b hb).2.1, (hw b hb).2.2.1, (hw b hb).2.2.2.1⟩) k, ⟨vs, ⟨ol, k _ _ (fun q => (hw _ q).2.2.2.2.2 rfl) hol⟩, r⟩, c.free, c.freshC⟩
/-- the loop's variable -/
theorem CS.assign {s₀ : Shared} {Z₀ : ZMap} {H₀ : Hp} {Dl : Addr} {acc : List D} {x : Str} {px : Pos} {d : D} {v : Value} {Q : Unit → Shared → Prop} (c : CS X s₀ Z₀ H₀ env σ Dl s Z H acc) (hl : env.kindOf x = some .local) (hcl : env.cells.lookup x = none)
    (r : Rep X Z v d) (h : ∀ h' tk, CS X s₀ Z₀ H₀ env (sput σ x d) Dl { s with heap := h', toks := tk } Z H acc → Ev s Z H (fun a => a = Dl ∨ a = env.locals) { s with heap := h', toks := tk } Z H → Q () { s with heap := h', toks := tk }) :
    wpAny X.M A (assign (.Name x px) env v) Q No s := by
  obtain ⟨m, hn, hm⟩ := c.inv.loc
  have ho := c.inv.own env.locals (.inl rfl)
  refine wpAny_assign_Name (wpAny_storeName_local hl hn (fun h' hn' hs => ?_) (by rw [c.inv.eok.kind]; rfl))
  have k : ∀ b o, b ∉ [env.locals] → s.heap.get? b = some o → h'.get? b = some o := fun b o hb e => (hs.2 b (by simpa using hb)).trans e
  obtain ⟨vs, ⟨ol, hol⟩, rr⟩ := c.lst
  refine h h' _ ⟨c.ev.wr (wr := [env.locals]) (fun b hb => by rw [List.mem_singleton.mp hb]; exact c.freshC) k, ⟨c.inv.ok.wr (wr := [env.locals]) (fun b hb => by rw [List.mem_singleton.mp hb]; exact ho) k, c.inv.eok, ⟨_, hn', fun y hy => ?_⟩, fun y cc hy => ?_, c.inv.own⟩,
    ⟨vs, ⟨ol, k _ _ (fun q => c.free.2.2.2.2 (.inl (List.mem_singleton.mp q))) hol⟩, rr⟩, c.free, c.freshC⟩
    ⟨⟨_, _, rfl⟩, fun a o e _ hO => k a o (fun q => hO (.inr (List.mem_singleton.mp q))) e, fun a e => ?_, .refl _, fun _ e _ _ => e, fun _ e _ => e⟩
  · unfold sput
    split
    · exact .some r
    · exact hm y hy
  · obtain ⟨ov, hv, hr⟩ := c.inv.cel y cc hy
    refine ⟨ov, hv.sameBut hs (c.inv.eok.apart y cc hy), ?_⟩
    unfold sput
    split
    · rename_i q; subst q; rw [hcl] at hy; cases hy
    · exact hr
  · by_cases q : a = env.locals
    · subst q; obtain ⟨o', _, _, e', _⟩ := hn'; exact absurd e (by show h'.get? env.locals ≠ none; rw [e']; simp)
    · rw [← hs.2 a q]; exact e
theorem CS.append {s₀ : Shared} {Z₀ : ZMap} {H₀ : Hp} {Dl : Addr} {acc : List D} {d : D} {v : Value} {Q : Value → Shared → Prop} (c : CS X s₀ Z₀ H₀ env σ Dl s Z H acc) (r : Rep X Z v d) (hz : acc.length ≤ sizeLine)
    (h : ∀ h', CS X s₀ Z₀ H₀ env σ Dl { s with heap := h' } Z H (acc ++ [d]) → Ev s Z H (fun a => a = Dl ∨ a = env.locals) { s with heap := h' } Z H → Q .none { s with heap := h' }) : wpAny X.M A (call (.builtin "list.append") [.ref Dl, v]) Q No s := by
  obtain ⟨vs, hl, rr⟩ := c.lst
  refine wpAny_list_append_plain hl (fun h' hl' hs => ?_) (by have := rr.length; rw [Array.length_toList] at this; omega)
  have k : ∀ b o, b ∉ [Dl] → s.heap.get? b = some o → h'.get? b = some o := fun b o hb e => (hs.2 b (by simpa using hb)).trans e
  exact h h' ⟨c.ev.wr (wr := [Dl]) (fun b hb => by rw [List.mem_singleton.mp hb]; exact c.free.2.2.2.1) k,
    c.inv.wr (wr := [Dl]) (fun b hb => by rw [List.mem_singleton.mp hb]; exact ⟨c.free.1, c.free.2.1, c.free.2.2.1, c.free.2.2.2.2⟩) k, ⟨_, hl', by rw [Array.toList_push]; exact rr.append (.cons r .nil)⟩, c.free, c.freshC⟩
    ⟨⟨_, s.toks, rfl⟩, fun a o e _ hO => k a o (fun q => hO (.inl (List.mem_singleton.mp q))) e, fun a e => (by
      by_cases q : a = Dl
      · subst q; obtain ⟨o', e'⟩ := hl'; exact absurd e (by show h'.get? a ≠ none; rw [e']; simp)
      · rw [← hs.2 a q]; exact e), .refl _, fun _ e _ _ => e, fun _ e _ => e⟩

theorem CS.sto {s₀ : Shared} {Z₀ : ZMap} {H₀ : Hp} {Dl : Addr} {acc : List D} {x : Str} {d : D} (c : CS X s₀ Z₀ H₀ env (sput σ' x d) Dl s Z H acc) (h : ∀ y, y ≠ x → σ y = none ∨ σ y = σ' y) : CS X s₀ Z₀ H₀ env (sput σ x d) Dl s Z H acc :=
  ⟨c.ev, c.inv.less fun y => by unfold sput; split <;> first | exact .inr rfl | (rename_i q; exact h y q), c.lst, c.free, c.freshC⟩

/-- one clause -/
theorem comp_loop1 {e elt : Expr} {depth : Nat} {x : Str} {px ip : Pos} {ifs : List Expr} {I : Addr} {fp wr : List Addr} {P : Nat → Value → Prop} {St : Nat → Heap → Prop} {ds acc₀ : List D} {s₀ s₁ : Shared} {Z₀ Z₁ : ZMap} {H₀ H₁ : Hp} {Dl : Addr} {R : Result → Shared → Prop} {Q : List D → Hp → Prop}
    (heq : compTurn e depth (.ref I) (.ref Dl) env = (do
      standAt ip
      match ← pyNext (.ref I) with
      | none => pure (.done .next)
      | some v =>
        letOwnedTupleGo (.Name x px) (.ref I) v
        assign (.Name x px) env v
        let mut ok := true
        for c in ifs do
          if ok then ok ← isTrue c env (eval c env)
        if ok then (do let _ ← call (.builtin "list.append") [.ref Dl, ← eval elt env])
        again (.compLoop e depth (.ref I) (.ref Dl) env)))
    (hfr : (Code.compLoop e depth (.ref I) (.ref Dl) env).isFrame = false) (hq : (Code.compLoop e depth (.ref I) (.ref Dl) env).quiet = true) (hA : A.under (Code.compLoop e depth (.ref I) (.ref Dl) env) = A)
    (hl : env.kindOf x = some .local) (hcl : env.cells.lookup x = none) (hz : acc₀.length + ds.length ≤ sizeLine)
    (W : Walks X.prog X.w A I fp wr ds.length P St) (hst : St 0 s.heap) (hP : ∀ i v, P i v → ∃ d, ds[i]? = some d ∧ Rep X Z v d)
    (hwr : ∀ b ∈ wr, s₀.heap.get? b = none ∧ s₁.heap.get? b = none ∧ Z b = none ∧ H b = none ∧ X.base.get? b = none ∧ ¬ ownA env b ∧ b ≠ Dl) (hfp : ∀ b ∈ fp, (b ∈ wr ∨ Z b ≠ none) ∧ b ≠ Dl ∧ b ≠ env.locals) (hhas : ∀ i h', St i h' → ∀ b ∈ wr, h'.get? b ≠ none)
    (hσ : ∀ y, y ≠ x → σ y = none ∨ σ y = σ' y) (c : CS X s₀ Z₀ H₀ env σ' Dl s Z H acc₀) (e₁ : Ev s₁ Z₁ H₁ (fun a => a = Dl ∨ a = env.locals) s Z H) (h : LC X A env x ifs elt σ Q ds acc₀ H)
    (hR : ∀ s' Z' H' σ'' acc, CS X s₀ Z₀ H₀ env σ'' Dl s' Z' H' acc → (∀ y, y ≠ x → σ y = none ∨ σ y = σ'' y) → acc.length ≤ acc₀.length + ds.length → Ev s₁ Z₁ H₁ (fun a => a = Dl ∨ a = env.locals) s' Z' H' → Q acc H' → R (.ok .next) s') :
    codeAny X.M A (.compLoop e depth (.ref I) (.ref Dl) env) R s := by
  refine compLoop_gen (fun n s' => ∃ j Z' H' σ'' acc, j ≤ ds.length ∧ n = ds.length + 1 - j ∧ CS X s₀ Z₀ H₀ env σ'' Dl s' Z' H' acc ∧ (∀ y, y ≠ x → σ y = none ∨ σ y = σ'' y) ∧ acc.length ≤ acc₀.length + j ∧ ZLe Z Z' ∧
    Ev s₁ Z₁ H₁ (fun a => a = Dl ∨ a = env.locals) s' Z' H' ∧ (∀ b ∈ wr, Z' b = none ∧ H' b = none) ∧ St j s'.heap ∧ LC X A env x ifs elt σ Q (ds.drop j) acc H') heq hfr hq hA ?_ (ds.length + 1)
    ⟨0, Z, H, σ', acc₀, Nat.zero_le _, rfl, c, hσ, Nat.le_refl _, .refl _, e₁, fun b hb => ⟨(hwr b hb).2.2.1, (hwr b hb).2.2.2.1⟩, hst, h⟩
  rintro n s₂ ⟨j, Z₂, H₂, σ₂, acc, hj, rfl, c₂, hσ₂, hlen, hzle, e₂, hw, hst₂, q₂⟩
  have hw₂ : ∀ b ∈ wr, Z₂ b = none ∧ H₂ b = none ∧ X.base.get? b = none ∧ ¬ ownA env b ∧ s₀.heap.get? b = none ∧ b ≠ Dl := fun b hb => ⟨(hw b hb).1, (hw b hb).2, (hwr b hb).2.2.2.2.1, (hwr b hb).2.2.2.2.2.1, (hwr b hb).1, (hwr b hb).2.2.2.2.2.2⟩
  have hwr₁ : ∀ b ∈ wr, s₁.heap.get? b = none := fun b hb => (hwr b hb).2.1
  by_cases hlt : j < ds.length
  · refine W.item j s₂ _ _ hlt hst₂ fun v h' tk hv hst₃ hk => ?_
    obtain ⟨dj, hdj, rv⟩ := hP j v hv
    have c₃ := c₂.wr (tk := tk) hw₂ hk
    have e₃ : Ev s₁ Z₁ H₁ (fun a => a = Dl ∨ a = env.locals) { s₂ with heap := h', toks := tk } Z₂ H₂ := e₂.wr hwr₁ hk
    rw [List.drop_eq_getElem_cons hlt] at q₂
    have hdj' : ds[j] = dj := by rw [List.getElem?_eq_getElem hlt] at hdj; exact Option.some.inj hdj
    rw [hdj'] at q₂
    -- how the iterator's facts go on
    have go : ∀ {s₄ : Shared} {Z₄ : ZMap} {H₄ : Hp}, Ev { s₂ with heap := h', toks := tk } Z₂ H₂ (fun a => a = Dl ∨ a = env.locals) s₄ Z₄ H₄ → St (j + 1) s₄.heap ∧ ∀ b ∈ wr, Z₄ b = none ∧ H₄ b = none := fun e => by
      refine ⟨W.frame _ _ _ hst₃ fun b hb o ho => ?_, fun b hb => ⟨e.znew b (hw b hb).1 (hw b hb).2 (hhas _ _ hst₃ b hb), e.hnew b (hw b hb).2 (hhas _ _ hst₃ b hb)⟩⟩
      refine e.keep b o ho ?_ ?_
      · rcases (hfp b hb).1 with q | q
        · exact (hw b q).2
        · cases w : H₂ b with
          | none => rfl
          | some d' =>
            have := (c₂.inv.ok.sep b (by rw [w]; simp)).1
            cases w' : Z b with
            | none => exact absurd w' q
            | some o' => rw [hzle b o' w'] at this; cases this
      · rintro (q | q)
        · exact (hfp b hb).2.1 q
        · exact (hfp b hb).2.2 q
    refine c₃.assign hl hcl (rv.mono hzle) fun h₄ tk₄ c₄ e₄ => ?_
    have c₄' := c₄.sto hσ₂
    refine wpAny_mono (tests_tIfs q₂ c₄'.inv) (fun ok s₅ p => ?_) fun _ _ f => f
    obtain ⟨Z₅, H₅, e₅, o₅, q₅⟩ := p
    have c₅ := c₄'.step e₅ o₅
    have e45 := e₄.trans e₅.any
    cases ok with
    | false =>
      have q₅' : LC X A env x ifs elt σ Q (ds.drop (j + 1)) acc H₅ := q₅
      simp only [Bool.false_eq_true, if_false]
      exact ⟨_, by omega, j + 1, Z₅, H₅, _, acc, hlt, rfl, c₅, fun y hy => .inr (by simp [sput, hy]), by omega, hzle.trans e45.zle, e₃.trans e45, (go e45).2, (go e45).1, q₅'⟩
    | true =>
      simp only [if_true]
      refine wpAny_bind (wpAny_mono (q₅ s₅ Z₅ c₅.inv) (fun y s₆ p => ?_) fun _ _ f => f)
      obtain ⟨Z₆, H₆, dy, e₆, o₆, r₆, q₆⟩ := p
      have c₆ := c₅.step e₆ o₆
      refine wpAny_bind (c₆.append r₆ (by omega) fun h₇ c₇ e₇ => wpAny_pure ?_)
      have e47 := (e45.trans e₆.any).trans e₇
      exact ⟨_, by omega, j + 1, Z₆, H₆, _, acc ++ [dy], hlt, rfl, c₇, fun y hy => .inr (by simp [sput, hy]), by simp; omega, hzle.trans e47.zle, e₃.trans e47, (go e47).2, (go e47).1, q₆⟩
  · have hj' : j = ds.length := by omega
    subst hj'
    rw [List.drop_length] at q₂
    refine W.done s₂ _ _ hst₂ fun h' tk hk => ?_
    exact hR _ Z₂ H₂ σ₂ acc (c₂.wr (tk := tk) hw₂ hk) hσ₂ hlen (e₂.wr hwr₁ hk) q₂
end
end Mine

end

noncomputable section
open PySem PySem.W PySem.Calls PyProof.Rows
set_option maxHeartbeats 1000000
namespace Mine

section
variable {X : Cx} {A : Around} {s s' s'' : Shared} {Z Z' : ZMap} {H H' : Hp} {env : Env} {σ σ' : Sto}

theorem Ok.adopt {o : Obj} {a : Addr} {d : D} (i : Ok X s Z H) (ho : s.heap.get? a = some o) (r : ORep X Z o d) (hz : Z a = none) (hb : X.base.get? a = none) (hl : sysModules < a) : Ok X s Z (hput H a d) := by
  refine ⟨i.base, i.z, fun b d' e => ?_, fun b hb' => ?_, fun b hb' => ?_⟩
  · unfold hput at e; split at e
    · rename_i q; subst q; cases e; exact ⟨o, ho, r⟩
    · exact i.h b d' e
  · by_cases q : b = a
    · subst q; exact ⟨hz, hb⟩
    · rw [hput_ne q] at hb'; exact i.sep b hb'
  · by_cases q : b = a
    · subst q; exact hl
    · rw [hput_ne q] at hb'; exact i.low b hb'
theorem Ev.adopt {O : Addr → Prop} {s₁ : Shared} {Z₁ : ZMap} {H₁ : Hp} {a : Addr} {d : D} (e : Ev s₁ Z₁ H₁ O s Z H) (hn : s₁.heap.get? a = none) : Ev s₁ Z₁ H₁ O s Z (hput H a d) :=
  ⟨e.same, e.keep, e.grow, e.zle, e.znew, fun b h1 h2 => by unfold hput; split; (rename_i q; subst q; exact absurd hn h2); exact e.hnew b h1 h2⟩
theorem hdel_hput {H : Hp} {a : Addr} {d : D} (h : H a = none) : hdel (hput H a d) a = H := by
  funext b; unfold hdel hput; split
  · rename_i q; subst q; exact h.symm
  · rfl
/-- an object that may turn, handed on frozen -/
theorem tE_frz {e : Expr} {Q : D → Hp → Prop} (h : tE X A env e σ H (fun d H' => ∃ a dd, d = .raw (.ref a) ∧ H' a = some dd ∧ Q dd (hdel H' a))) : tE X A env e σ H Q := fun s Z i => by
  refine wpAny_mono (h s Z i) (fun v s₁ p => ?_) fun _ _ f => f
  obtain ⟨Z₁, H₁, d, e₁, o₁, r₁, a, dd, rfl, ha, q⟩ := p
  obtain ⟨o, ho, r, hz, ok'⟩ := o₁.freeze ha
  rw [r₁.raw_eq]
  exact ⟨_, _, dd, e₁.trans (Ev.freeze ha hz), ok', .cont zput_self (r.mono (zput_le hz)), q⟩


theorem cEnv_inv {scope : Scope} {C : Addr} (i : Inv X s Z H env σ) (hk : scope.kind = .function) (hn : s.heap.get? C = none) {h' : Heap} {tk : Nat} (k : ∀ b o, s.heap.get? b = some o → h'.get? b = some o) (hC : h'.Ns C (fun _ => none))
    (hloc : ∀ x, (cEnv scope env C).kindOf x = some .local → (clOf scope env [] scope.names).lookup x = none) : Inv X { s with heap := h', toks := tk } Z H (cEnv scope env C) (cSto scope env σ) := by
  have sub : ∀ x c, (clOf scope env [] scope.names).lookup x = some c → env.cells.lookup x = some c := clOf_sub _ _ (fun _ _ e => by cases e)
  have iC : ∀ x c, (clOf scope env [] scope.names).lookup x = some c → c ≠ C := fun x c e q => by
    subst q; exact i.has (.inr ⟨x, sub x c e⟩) hn
  refine ⟨i.ok.keeps k, ⟨hk, i.eok.glob, i.eok.blt, fun x y c e e' => i.eok.inj x y c (sub _ _ e) (sub _ _ e'), fun x c e => iC x c e⟩, ⟨_, hC, fun x hx => ?_⟩, fun x c e => ?_, fun a ha => ?_⟩
  · unfold cSto; rw [hloc x hx]; exact .none
  · have e' : (clOf scope env [] scope.names).lookup x = some c := e
    obtain ⟨ov, hv, r⟩ := i.cel x c (sub x c e)
    refine ⟨ov, hv.keeps k, ?_⟩
    unfold cSto; rw [e']; exact r
  · rcases ha with rfl | ⟨x, e⟩
    · exact ⟨i.ok.none_z hn, i.ok.none_h hn, i.ok.none_b hn⟩
    · exact i.own a (.inr ⟨x, sub x a e⟩)

/-- the list of a comprehension of one clause is made -/
theorem comp_block {elt iter : Expr} {x : Str} {px : Pos} {ifs : List Expr} {scope : Scope} {pos : Pos} {it : Value} {s₁ s₂ : Shared} {ds : List D} {RR : Value → Addr → Result → Shared → Prop} {Q : List D → Hp → Prop}
    (hk : scope.kind = .function) (hcell : ∀ y ∈ scope.names, y.2 ≠ .cell) (hx : scope.names.lookup x = some .local) (hloc : ∀ C x, (cEnv scope env C).kindOf x = some .local → (clOf scope env [] scope.names).lookup x = none)
    (i₁ : Inv X s₁ Z H env σ) (e₂ : Ev s₁ Z H nil s₂ Z H) (o₂ : Ok X s₂ Z H) (it_ : ItOk X A s₁ it s₂ Z ds) (hz : ds.length ≤ sizeLine)
    (h : ∀ C, LC X A (cEnv scope env C) x ifs elt (cSto scope env σ) Q ds [] H)
    (hRR : ∀ Dl C s' Z' H' acc, Ev s₁ Z H nil s' Z' H' → Ok X s' Z' H' → (∃ vs, s'.heap.PlainList Dl vs ∧ Reps X Z' vs.toList acc) → Z' Dl = none ∧ H' Dl = none ∧ X.base.get? Dl = none ∧ s₁.heap.get? Dl = none ∧ sysModules < Dl → Z' C = none ∧ H' C = none ∧ X.base.get? C = none ∧ s₁.heap.get? C = none → Dl ≠ C →
      (∃ m, s'.heap.Ns C m) → acc.length ≤ ds.length → Q acc H' → RR (.ref Dl) C (.ok .next) s') :
    wpAny X.M A (newList []) (fun acc s₃ => wpAny X.M A (newFunctionEnv scope env.globals (clOf scope env [] scope.names) [] env.qual none .none (some env)) (fun cenv s₄ =>
      codeAny X.M A (.compStart (.ListComp elt [⟨.Name x px, iter, ifs, 0⟩] scope pos) 0 it acc { cenv with scope := relabel scope env }) (RR acc cenv.locals) s₄) No s₃) No s₂ := by
  obtain ⟨I, fp, wr, P, St, rfl, W, hst, hP, hwr, hfp, hhas⟩ := it_
  have i₂ := i₁.step e₂ o₂
  refine wpAny_newObj_type (wpAny_newFunctionEnv hcell (by intro y hy; simp at hy) (fun h₁ hns₁ hsb₁ => ?_) hk)
  dsimp only at hns₁ hsb₁ ⊢
  generalize hH2 : s₂.heap.push { cls := .type "list", dict := none, data := .seq ([] : List Value).toArray } = H2 at hns₁ hsb₁ ⊢
  have hC : H2.objs.size = s₂.heap.objs.size + 1 := by rw [← hH2, Heap.size_push]
  have hDn : s₂.heap.get? s₂.heap.objs.size = none := Heap.get?_none_of_le (Nat.le_refl _)
  have hCn : s₂.heap.get? H2.objs.size = none := Heap.get?_none_of_le (by rw [hC]; exact Nat.le_succ _)
  have hDC : s₂.heap.objs.size ≠ H2.objs.size := by rw [hC]; exact Nat.ne_of_lt (Nat.lt_succ_self _)
  have hD₁ := e₂.grow _ hDn
  have hC₁ := e₂.grow _ hCn
  have old : ∀ b o, s₂.heap.get? b = some o → h₁.get? b = some o := fun b o e => by
    refine hsb₁.extBut b o (fun q => ?_) (Heap.get?_push_of_some _ (hH2 ▸ Heap.get?_push_of_some _ e))
    rw [q, hCn] at e; cases e
  have hacc : h₁.PlainList s₂.heap.objs.size #[] := ⟨_, hsb₁.extBut _ _ hDC (Heap.get?_push_of_some _ (hH2 ▸ Heap.get?_push_size _ rfl))⟩
  have hst₁ : St 0 h₁ := W.frame _ _ _ hst fun b _ o e => old b o e
  have e₃ : Ev s₁ Z H nil { s₂ with heap := h₁, toks := s₂.toks + ([] : List (Str × Value)).length } Z H := e₂.trans (.keeps old)
  have ci : Inv X { s₂ with heap := h₁, toks := s₂.toks + ([] : List (Str × Value)).length } Z H (cEnv scope env H2.objs.size) (cSto scope env σ) :=
    cEnv_inv i₂ hk hCn old (by simpa using hns₁) (hloc _)
  have hown : ∀ a, ownA (cEnv scope env H2.objs.size) a → a = H2.objs.size ∨ ownA env a := fun a ha => by
    rcases ha with rfl | ⟨y, e⟩
    · exact .inl rfl
    · exact .inr (.inr ⟨y, clOf_sub _ _ (fun _ _ e => by cases e) y a e⟩)
  have cs : CS X s₁ Z H (cEnv scope env H2.objs.size) (cSto scope env σ) s₂.heap.objs.size { s₂ with heap := h₁, toks := s₂.toks + ([] : List (Str × Value)).length } Z H [] := by
    refine ⟨e₃, ci, ⟨#[], hacc, .nil⟩, ⟨o₂.none_z hDn, o₂.none_h hDn, o₂.none_b hDn, hD₁, fun q => ?_⟩, hC₁⟩
    rcases hown _ q with q | q
    · exact hDC q
    · exact i₂.has q hDn
  have hb : ∀ b ∈ fp, s₂.heap.get? b ≠ none := fun b hb => by
    rcases hfp b hb with q | q
    · exact hhas _ _ hst b q
    · cases w : Z b with
      | none => exact absurd w q
      | some o => rw [o₂.z b o w]; simp
  have hwn : ∀ b ∈ wr, s₂.heap.get? b ≠ none := fun b hb => hhas _ _ hst b hb
  have loop : codeAny X.M A (.compLoop (.ListComp elt [⟨.Name x px, iter, ifs, 0⟩] scope pos) 0 (.ref I) (.ref s₂.heap.objs.size) (cEnv scope env H2.objs.size)) (RR (.ref s₂.heap.objs.size) H2.objs.size)
      { s₂ with heap := h₁, toks := s₂.toks + ([] : List (Str × Value)).length } := by
    refine comp_loop1 (s₀ := s₁) (s₁ := s₁) (Z₁ := Z) (H₁ := H) (compTurn_list elt (.Name x px) iter ifs scope pos (.ref I) (.ref s₂.heap.objs.size) (cEnv scope env H2.objs.size)) rfl rfl rfl (lookup_relabel_local hx)
      (hloc H2.objs.size x (lookup_relabel_local hx)) (by simpa using hz) W hst₁ hP (fun b hb => ?_) (fun b hbf => ⟨hfp b hbf, fun q => hb b hbf (q ▸ hDn), fun q => hb b hbf (q ▸ hCn)⟩) hhas (fun _ _ => .inr rfl) cs e₃.any (h _) fun s' Z' H' σ'' acc c hσ hlen _ q => ?_
    · refine ⟨hwr b hb, hwr b hb, i₁.ok.none_z (hwr b hb), i₁.ok.none_h (hwr b hb), i₁.ok.none_b (hwr b hb), fun q => ?_, fun q => hwn b hb (q ▸ hDn)⟩
      rcases hown _ q with q | q
      · exact hwn b hb (q ▸ hCn)
      · exact i₁.has q (hwr b hb)
    · obtain ⟨m, hm, _⟩ := c.inv.loc
      have hCo := c.inv.own H2.objs.size (.inl rfl)
      exact hRR _ _ s' Z' H' acc c.ev c.inv.ok c.lst ⟨c.free.1, c.free.2.1, c.free.2.2.1, hD₁, o₂.big⟩ ⟨hCo.1, hCo.2.1, hCo.2.2, hC₁⟩ hDC ⟨m, hm⟩ (by simpa using hlen) q
  rw [show ({ newEnv scope H2.objs.size env.globals (clOf scope env [] scope.names) env.qual none .none (some env) builtinsNs with scope := relabel scope env } : Env) = cEnv scope env H2.objs.size from rfl]
  exact codeAny_compStart_list loop (W.self 0 _ _ _ hst₁ loop)

/-- [elt for x in iter if ..], to turn -/
theorem tE_CompM {elt iter : Expr} {x : Str} {px : Pos} {ifs : List Expr} {scope : Scope} {pos : Pos} {Q : D → Hp → Prop}
    (h : tE X A env iter σ H (fun d H₁ => tIt X A d H₁ (fun ds => ds.length ≤ sizeLine ∧ ∀ C, LC X A (cEnv scope env C) x ifs elt (cSto scope env σ) (fun acc H₂ => acc.length ≤ ds.length → ∀ a, H₂ a = none → Q (.raw (.ref a)) (hput H₂ a (.lst acc))) ds [] H₁)))
    (hk : scope.kind = .function) (hfree : ∀ y ∈ scope.names, y.2 = .free → (env.cells.lookup y.1).isSome = true) (hcell : ∀ y ∈ scope.names, y.2 ≠ .cell) (hnames : ∀ y ∈ scope.names, y.2 = .local → scope.names.lookup y.1 = some .local) (hx : scope.names.lookup x = some .local)
    (hloc : ∀ C x, (cEnv scope env C).kindOf x = some .local → (clOf scope env [] scope.names).lookup x = none) (hs : ∀ x, foldedSetIterable iter env x = pure x := by intro _; rfl) :
    tE X A env (.ListComp elt [⟨.Name x px, iter, ifs, 0⟩] scope pos) σ H Q := fun s Z i => by
  rw [eval_ListComp]
  refine wpAny_comprehension_free (use := none) (Q := PE X s Z H Q) rfl hs (closureFor_of hfree) hk hnames (wpAny_mono (h s Z i) (fun xv s₁ p => ?_) fun _ _ f => f)
  obtain ⟨Z₁, H₁, d, e₁, o₁, r₁, q₁⟩ := p
  refine wpAny_mono (q₁ s₁ Z₁ xv o₁ r₁) (fun it s₂ p => ?_) fun _ _ f => f
  obtain ⟨ds, e₂, o₂, it_, hz, q₂⟩ := p
  refine comp_block (RR := fun acc C => compPost X.M A No none (PE X s Z H Q) acc C) hk hcell hx hloc (i.step e₁ o₁) e₂ o₂ it_ hz q₂ fun Dl C s' Z' H' acc ev ok ⟨vs, hl, rs⟩ hD hC hDC ⟨m, hm⟩ hlen q => ?_
  refine ⟨m, hm, fun h' hsb => ?_⟩
  have k : ∀ b o, b ∉ [C] → s'.heap.get? b = some o → h'.get? b = some o := fun b o hb e => hsb.extBut b o (by simpa using hb) e
  have ok' : Ok X { s' with heap := h' } Z' H' := ok.wr (wr := [C]) (tk := s'.toks) (fun b hb => by rw [List.mem_singleton.mp hb]; exact ⟨hC.1, hC.2.1, hC.2.2.1⟩) k
  have ev' : Ev s₁ Z₁ H₁ nil { s' with heap := h' } Z' H' := ev.wr (wr := [C]) (tk := s'.toks) (fun b hb => by rw [List.mem_singleton.mp hb]; exact hC.2.2.2) k
  obtain ⟨n, hol⟩ := hl
  have hol' : ({ s' with heap := h' } : Shared).heap.get? Dl = some _ := k _ _ (by simpa using hDC) hol
  exact ⟨Z', hput H' Dl (.lst acc), .raw _, e₁.trans (ev'.adopt hD.2.2.2.1), ok'.adopt hol' (.lst rfl rs) hD.1 hD.2.2.1 hD.2.2.2.2, .raw _, q hlen Dl hD.2.1⟩
/-- [elt for x in iter if ..], frozen -/
theorem tE_Comp {elt iter : Expr} {x : Str} {px : Pos} {ifs : List Expr} {scope : Scope} {pos : Pos} {Q : D → Hp → Prop}
    (h : tE X A env iter σ H (fun d H₁ => tIt X A d H₁ (fun ds => ds.length ≤ sizeLine ∧ ∀ C, LC X A (cEnv scope env C) x ifs elt (cSto scope env σ) (fun acc H₂ => acc.length ≤ ds.length → Q (.lst acc) H₂) ds [] H₁)))
    (hk : scope.kind = .function) (hfree : ∀ y ∈ scope.names, y.2 = .free → (env.cells.lookup y.1).isSome = true) (hcell : ∀ y ∈ scope.names, y.2 ≠ .cell) (hnames : ∀ y ∈ scope.names, y.2 = .local → scope.names.lookup y.1 = some .local) (hx : scope.names.lookup x = some .local)
    (hloc : ∀ C x, (cEnv scope env C).kindOf x = some .local → (clOf scope env [] scope.names).lookup x = none) (hs : ∀ x, foldedSetIterable iter env x = pure x := by intro _; rfl) :
    tE X A env (.ListComp elt [⟨.Name x px, iter, ifs, 0⟩] scope pos) σ H Q := by
  refine tE_frz (tE_CompM (h.mono fun d H₁ t s Z v o r => wpAny_mono (t s Z v o r) (fun it s' p => ?_) fun _ _ f => f) hk hfree hcell hnames hx hloc hs)
  obtain ⟨ds, e, o, i, hz, q⟩ := p
  refine ⟨ds, e, o, i, hz, fun C => ?_⟩
  have mono : ∀ (ds' acc : List D) (H : Hp), LC X A (cEnv scope env C) x ifs elt (cSto scope env σ) (fun acc H₂ => acc.length ≤ ds.length → Q (.lst acc) H₂) ds' acc H →
      LC X A (cEnv scope env C) x ifs elt (cSto scope env σ) (fun acc H₂ => acc.length ≤ ds.length → ∀ a, H₂ a = none → ∃ a' dd, D.raw (.ref a) = .raw (.ref a') ∧ hput H₂ a (.lst acc) a' = some dd ∧ Q dd (hdel (hput H₂ a (.lst acc)) a')) ds' acc H := by
    intro ds'
    induction ds' with
    | nil => intro acc H hq hlen a ha; exact ⟨a, _, rfl, hput_self, by rw [hdel_hput ha]; exact hq hlen⟩
    | cons d' ds' ih =>
      intro acc H hq
      unfold LC at hq ⊢
      have step : ∀ (ok : Bool) H₂, (if ok = true then tE X A (cEnv scope env C) elt (sput (cSto scope env σ) x d') H₂ (fun e H₃ => LC X A (cEnv scope env C) x ifs elt (cSto scope env σ) (fun acc H₂ => acc.length ≤ ds.length → Q (.lst acc) H₂) ds' (acc ++ [e]) H₃) else LC X A (cEnv scope env C) x ifs elt (cSto scope env σ) (fun acc H₂ => acc.length ≤ ds.length → Q (.lst acc) H₂) ds' acc H₂) →
          (if ok = true then tE X A (cEnv scope env C) elt (sput (cSto scope env σ) x d') H₂ (fun e H₃ => LC X A (cEnv scope env C) x ifs elt (cSto scope env σ) (fun acc H₂ => acc.length ≤ ds.length → ∀ a, H₂ a = none → ∃ a' dd, D.raw (.ref a) = .raw (.ref a') ∧ hput H₂ a (.lst acc) a' = some dd ∧ Q dd (hdel (hput H₂ a (.lst acc)) a')) ds' (acc ++ [e]) H₃) else LC X A (cEnv scope env C) x ifs elt (cSto scope env σ) (fun acc H₂ => acc.length ≤ ds.length → ∀ a, H₂ a = none → ∃ a' dd, D.raw (.ref a) = .raw (.ref a') ∧ hput H₂ a (.lst acc) a' = some dd ∧ Q dd (hdel (hput H₂ a (.lst acc)) a')) ds' acc H₂) := by
        intro ok H₂ hq
        cases ok
        · exact ih _ _ hq
        · exact tE.mono hq fun e H₃ hq => ih _ _ hq
      match ifs, hq with
      | [], hq => exact step true _ hq
      | [c], hq => exact fun s Z i => wpAny_mono (hq s Z i) (fun ok s' ⟨Z', H', e, o, q⟩ => ⟨Z', H', e, o, step ok _ q⟩) fun _ _ f => f
  exact mono _ _ _ (q C)
end
end Mine

end

noncomputable section
open PySem PySem.W PySem.Calls PyProof.Rows
set_option maxHeartbeats 1000000
namespace Mine

mutual
noncomputable def D.py : D → Option PyData
  | .none => some .none
  | .bool b => some (.bool b)
  | .int i => some (.int i)
  | .str s => some (.str s)
  | .tup ds => (pyAll ds).map .tuple
  | .lst ds => (pyAll ds).map .list
  | .fset _ => none
  | .sset _ => none
  | .idict _ _ => none
  | .tdict _ _ => none
  | .ns _ _ => none
  | .inst _ _ => none
  | .obj _ _ _ => none
  | .raw _ => none
  | .rng _ => none
noncomputable def pyAll : List D → Option (List PyData)
  | [] => some []
  | d :: ds => match d.py, pyAll ds with
    | some p, some ps => some (p :: ps)
    | _, _ => none
end

section
variable {X : Cx} {A : Around} {s s' s'' : Shared} {Z Z' : ZMap} {H H' : Hp} {env : Env} {σ σ' : Sto}

theorem Reps.reads {h : Heap} (hz : ∀ a o, Z a = some o → h.get? a = some o) {vs : List Value} {ds : List D} {ps : List PyData} (r : Reps X Z vs ds) (e : pyAll ds = some ps) : ∃ as, ReadsAll h vs ps as := by
  refine Reps.rec (motive_1 := fun v d _ => ∀ p, d.py = some p → ∃ as, Reads h v p as) (motive_2 := fun o d _ => ∀ p a, d.py = some p → h.get? a = some o → ∃ as, Reads h (.ref a) p as) (motive_3 := fun vs ds _ => ∀ ps, pyAll ds = some ps → ∃ as, ReadsAll h vs ps as)
    (fun _ e => ?_) (fun b _ e => ?_) (fun i t _ e => ?_) (fun s t _ e => ?_) (fun v _ e => nomatch e) (fun _ _ e => nomatch e) (fun _ _ _ _ _ e => nomatch e) (fun hz' _ r p e => r p _ e (hz _ _ hz'))
    (fun hc hd _ r p a e ho => ?_) (fun hc _ r p a e ho => ?_) (fun _ _ _ _ e => nomatch e) (fun _ _ _ _ e => nomatch e) (fun _ _ _ e => nomatch e) (fun _ _ _ _ _ _ _ _ _ _ e => nomatch e) (fun _ _ _ _ _ _ _ _ _ _ e => nomatch e) (fun _ _ _ _ _ e => nomatch e)
    (fun _ e => ?_) (fun {_ d _ ds} _ _ a r ps e => ?_) r ps e
  · cases e; exact ⟨_, .none⟩
  · cases e; exact ⟨_, .bool _⟩
  · cases e; exact ⟨_, .int _ _⟩
  · cases e; exact ⟨_, .str _ _⟩
  · obtain ⟨ps, e', rfl⟩ := Option.map_eq_some_iff.mp e
    obtain ⟨as, hr⟩ := r _ e'
    exact ⟨_, .tuple ho hc hd hr⟩
  · obtain ⟨ps, e', rfl⟩ := Option.map_eq_some_iff.mp e
    obtain ⟨as, hr⟩ := r _ e'
    exact ⟨_, .list ho (by rw [hc]) (by rw [hc]) hr⟩
  · cases e; exact ⟨_, .nil⟩
  · rw [pyAll] at e
    cases h1 : d.py with
    | none => rw [h1] at e; cases e
    | some p =>
      cases h2 : pyAll ds with
      | none => rw [h1, h2] at e; cases e
      | some ps =>
        rw [h1, h2] at e; cases e
        obtain ⟨_, ha⟩ := a _ h1
        obtain ⟨_, hr⟩ := r _ h2
        exact ⟨_, .cons ha hr⟩
theorem Rep.reads {h : Heap} (hz : ∀ a o, Z a = some o → h.get? a = some o) {v : Value} {d : D} {p : PyData} (r : Rep X Z v d) (e : d.py = some p) : ∃ as, Reads h v p as := by
  obtain ⟨as, q⟩ := Reps.reads hz (.cons r .nil) (ps := [p]) (by rw [pyAll, e]; rfl)
  cases q with | cons a _ => exact ⟨_, a⟩
theorem ORep.reads {h : Heap} (hz : ∀ a o, Z a = some o → h.get? a = some o) {o : Obj} {d : D} {p : PyData} {a : Addr} (r : ORep X Z o d) (e : d.py = some p) (ho : h.get? a = some o) : ∃ as, Reads h (.ref a) p as := by
  cases r with
  | tup hc hd r =>
    obtain ⟨ps, e', rfl⟩ := Option.map_eq_some_iff.mp e
    obtain ⟨as, hr⟩ := r.reads hz e'
    exact ⟨_, .tuple ho hc hd hr⟩
  | lst hc r =>
    obtain ⟨ps, e', rfl⟩ := Option.map_eq_some_iff.mp e
    obtain ⟨as, hr⟩ := r.reads hz e'
    exact ⟨_, .list ho (by rw [hc]) (by rw [hc]) hr⟩
  | _ => cases e

/-! what a value is -/
theorem Rep.toInt {v : Value} {i : Int} (r : Rep X Z v (.int i)) : ∃ t, v = .int i t := by
  cases r with
  | int => exact ⟨_, rfl⟩
  | cont _ r => cases r
theorem Rep.toBool {v : Value} {b : Bool} (r : Rep X Z v (.bool b)) : v = .bool b := by
  cases r with
  | bool => rfl
  | cont _ r => cases r
theorem Rep.toNone {v : Value} (r : Rep X Z v .none) : v = .none := by
  cases r with
  | none => rfl
  | cont _ r => cases r

/-- what D says of an object named by a: frozen, or in H -/
inductive At (H : Hp) : D → D → Prop
  | z {d : D} : At H d d
  | h {a : Addr} {d : D} : H a = some d → At H (.raw (.ref a)) d

theorem isList_of_plain {h : Heap} {l : Addr} {vs : Array Value} (x : h.PlainList l vs) : h.IsList l vs := by obtain ⟨n, e⟩ := x; exact ⟨_, e, rfl, n, rfl⟩
inductive ListAt (X : Cx) (h : Heap) (Z : ZMap) (v : Value) (ds : List D) : Prop
  | mk (l : Addr) (vs : Array Value) (e : v = .ref l) (hl : h.PlainList l vs) (rs : Reps X Z vs.toList ds)
inductive TupAt (X : Cx) (h : Heap) (Z : ZMap) (v : Value) (ds : List D) : Prop
  | mk (l : Addr) (vs : Array Value) (e : v = .ref l) (hl : IsTup h l vs) (rs : Reps X Z vs.toList ds)
theorem Ok.listAt {v : Value} {d : D} {ds : List D} (o : Ok X s Z H) (r : Rep X Z v d) (a : At H d (.lst ds)) : ListAt X s.heap Z v ds := by
  cases a with
  | z =>
    cases r with
    | cont hz r => cases r with | lst hc r => subst hc; exact ⟨_, _, rfl, ⟨_, o.z _ _ hz⟩, r⟩
  | h ha =>
    rw [r.raw_eq]
    obtain ⟨ob, ho, r⟩ := o.h _ _ ha
    cases r with | lst hc r => subst hc; exact ⟨_, _, rfl, ⟨_, ho⟩, r⟩
theorem Ok.tupAt {v : Value} {ds : List D} (o : Ok X s Z H) (r : Rep X Z v (.tup ds)) : TupAt X s.heap Z v ds := by
  cases r with
  | cont hz r => cases r with | tup hc hd r => exact ⟨_, _, rfl, ⟨_, o.z _ _ hz, hc, _, hd⟩, r⟩
theorem Ok.readAt {v : Value} {d e : D} {p : PyData} (o : Ok X s Z H) (r : Rep X Z v d) (a : At H d e) (hp : e.py = some p) : ∃ as, Reads s.heap v p as := by
  cases a with
  | z => exact r.reads o.z hp
  | h ha =>
    rw [r.raw_eq]
    obtain ⟨ob, ho, r⟩ := o.h _ _ ha
    exact r.reads o.z hp ho

/-! ints -/
theorem t2_add {i j : Int} {Q : D → Hp → Prop} (h : Q (.int (i + j)) H) : t2 X A (binaryOp .Add) (.int i) (.int j) H Q := fun s Z v u o r r' => by
  obtain ⟨_, rfl⟩ := r.toInt; obtain ⟨_, rfl⟩ := r'.toInt
  exact P.add_int (.tok _ o (.int _ _) h)
theorem t2_sub {i j : Int} {Q : D → Hp → Prop} (h : Q (.int (i - j)) H) : t2 X A (binaryOp .Sub) (.int i) (.int j) H Q := fun s Z v u o r r' => by
  obtain ⟨_, rfl⟩ := r.toInt; obtain ⟨_, rfl⟩ := r'.toInt
  exact P.sub_int (.tok _ o (.int _ _) h)
theorem t2_mul {i j : Int} {Q : D → Hp → Prop} (hm : IntMulOk i j) (h : Q (.int (i * j)) H) : t2 X A (binaryOp .Mult) (.int i) (.int j) H Q := fun s Z v u o r r' => by
  obtain ⟨_, rfl⟩ := r.toInt; obtain ⟨_, rfl⟩ := r'.toInt
  exact P.mul_int (.tok _ o (.int _ _) h) hm
theorem t2_mod {i j : Int} {Q : D → Hp → Prop} (hj : 0 < j) (h : Q (.int (i % j)) H) : t2 X A (binaryOp .Mod) (.int i) (.int j) H Q := fun s Z v u o r r' => by
  obtain ⟨_, rfl⟩ := r.toInt; obtain ⟨_, rfl⟩ := r'.toInt
  refine PyProof.Rows.mod_int' (by omega) ?_
  rw [Int.fmod_eq_emod_of_nonneg _ (Int.le_of_lt hj)]
  exact .tok _ o (.int _ _) h
theorem t2_div {i j : Int} {Q : D → Hp → Prop} (hj : 0 < j) (hs : j < 1073741824) (h : Q (.int (i / j)) H) : t2 X A (binaryOp .FloorDiv) (.int i) (.int j) H Q := fun s Z v u o r r' => by
  obtain ⟨_, rfl⟩ := r.toInt; obtain ⟨_, rfl⟩ := r'.toInt
  refine PyProof.Rows.floordiv_int (by omega) ?_ (.inl (PyProof.noPylong_small (by omega)))
  rw [Int.fdiv_eq_ediv_of_nonneg _ (Int.le_of_lt hj)]
  exact .tok _ o (.int _ _) h
theorem t2_pow {i j : Int} {Q : D → Hp → Prop} (hj : 0 ≤ j) (hs : (Builtin.Int.intBits i : Int) * j ≤ 2 ^ 27) (h : Q (.int (i ^ j.toNat)) H) : t2 X A (binaryOp .Pow) (.int i) (.int j) H Q := fun s Z v u o r r' => by
  obtain ⟨_, rfl⟩ := r.toInt; obtain ⟨_, rfl⟩ := r'.toInt
  exact PyProof.Rows.pow_int hj hs (.tok _ o (.int _ _) h)
theorem t1_neg {i : Int} {Q : D → Hp → Prop} (h : Q (.int (-i)) H) : t1 X A (unaryOp .USub) (.int i) H Q := fun s Z v o r => by
  obtain ⟨_, rfl⟩ := r.toInt
  exact P.neg_int (.tok _ o (.int _ _) h)
theorem t2_lt {i j : Int} {Q : D → Hp → Prop} (h : Q (.bool (decide (i < j))) H) : t2 X A (compareOp .Lt) (.int i) (.int j) H Q := fun s Z v u o r r' => by
  obtain ⟨_, rfl⟩ := r.toInt; obtain ⟨_, rfl⟩ := r'.toInt
  exact P.lt_int (.now o (.bool _) h)
theorem t2_gt {i j : Int} {Q : D → Hp → Prop} (h : Q (.bool (decide (i > j))) H) : t2 X A (compareOp .Gt) (.int i) (.int j) H Q := fun s Z v u o r r' => by
  obtain ⟨_, rfl⟩ := r.toInt; obtain ⟨_, rfl⟩ := r'.toInt
  exact P.gt_int (.now o (.bool _) h)
theorem t2_ge {i j : Int} {Q : D → Hp → Prop} (h : Q (.bool (decide (i ≥ j))) H) : t2 X A (compareOp .GtE) (.int i) (.int j) H Q := fun s Z v u o r r' => by
  obtain ⟨_, rfl⟩ := r.toInt; obtain ⟨_, rfl⟩ := r'.toInt
  exact P.ge_int (.now o (.bool _) h)
theorem t2_is_none {Q : D → Hp → Prop} (h : Q (.bool true) H) : t2 X A (compareOp .Is) .none .none H Q := fun s Z v u o r r' => by
  rw [r'.toNone, r.toNone]
  exact wpAny_is_self rfl (.now o (.bool _) h)
theorem t2_is_none_lst {ds : List D} {Q : D → Hp → Prop} (h : Q (.bool false) H) : t2 X A (compareOp .Is) (.lst ds) .none H Q := fun s Z v u o r r' => by
  rw [r'.toNone]
  cases r with | cont _ r => exact wpAny_is_plain rfl (.now o (.bool _) h)
theorem t2_is_none_raw {a : Addr} {Q : D → Hp → Prop} (h : Q (.bool false) H) : t2 X A (compareOp .Is) (.raw (.ref a)) .none H Q := fun s Z v u o r r' => by
  rw [r'.toNone, r.raw_eq]
  exact wpAny_is_plain rfl (.now o (.bool _) h)

/-! deep ==, in -/
theorem t2_eq {d e d' e' : D} {p q : PyData} {Q : D → Hp → Prop} (ha : At H d d') (hb : At H e e') (hp : d'.py = some p) (hq : e'.py = some q) (sp : SeqAt.shaped p = true) (sq : SeqAt.shaped q = true) (hu : A.units + 64 < cLine)
    (h : Q (.bool (PyData.eqv p q)) H) : t2 X A (compareOp .Eq) d e H Q := fun s Z v u o r r' => by
  obtain ⟨_, rp⟩ := o.readAt r ha hp
  obtain ⟨_, rq⟩ := o.readAt r' hb hq
  exact eq_dataH rp rq sp sq hu (.now o (.bool _) h)
theorem t2_ne {d e d' e' : D} {p q : PyData} {Q : D → Hp → Prop} (ha : At H d d') (hb : At H e e') (hp : d'.py = some p) (hq : e'.py = some q) (sp : SeqAt.shaped p = true) (sq : SeqAt.shaped q = true) (hu : A.units + 64 < cLine)
    (h : Q (.bool (!PyData.eqv p q)) H) : t2 X A (compareOp .NotEq) d e H Q := fun s Z v u o r r' => by
  obtain ⟨_, rp⟩ := o.readAt r ha hp
  obtain ⟨_, rq⟩ := o.readAt r' hb hq
  exact ne_dataH rp rq sp sq hu (.now o (.bool _) h)
theorem min_depth {n : Nat} {d : PyData} (hu : A.units + 65 < cLine) (hd : d.depth ≤ 64) : A.units + 1 + min n d.depth < cLine := by
  have := Nat.min_le_right n d.depth; omega
theorem t2_in {d c c' : D} {xs : List PyData} {p : PyData} {Q : D → Hp → Prop} (hc : At H c c') (hp : d.py = some p) (hq : c'.py = some (.list xs)) (sp : PyData.canLay0 p = true) (dp : p.depth ≤ 64) (sq : PyData.canLayAll0 xs = true) (hu : A.units + 65 < cLine)
    (h : Q (.bool (xs.any fun y => PyData.eqv y p)) H) : t2 X A (compareOp .In) d c H Q := fun s Z v u o r r' => by
  obtain ⟨_, rp⟩ := o.readAt r .z hp
  obtain ⟨_, rq⟩ := o.readAt r' hc hq
  exact SeqAt.in_list_reads rq rp sq sp (min_depth hu dp) (.now o (.bool _) h)
theorem t2_notIn {d c c' : D} {xs : List PyData} {p : PyData} {Q : D → Hp → Prop} (hc : At H c c') (hp : d.py = some p) (hq : c'.py = some (.list xs)) (sp : PyData.canLay0 p = true) (dp : p.depth ≤ 64) (sq : PyData.canLayAll0 xs = true) (hu : A.units + 65 < cLine)
    (h : Q (.bool (!xs.any fun y => PyData.eqv y p)) H) : t2 X A (compareOp .NotIn) d c H Q := fun s Z v u o r r' => by
  obtain ⟨_, rp⟩ := o.readAt r .z hp
  obtain ⟨_, rq⟩ := o.readAt r' hc hq
  exact SeqAt.notIn_list_reads rq rp sq sp (min_depth hu dp) (.now o (.bool _) h)
theorem t2_in_tup {d : D} {ds : List D} {xs : List PyData} {p : PyData} {Q : D → Hp → Prop} (hp : d.py = some p) (hq : (D.tup ds).py = some (.tuple xs)) (sp : PyData.canLay0 p = true) (dp : p.depth ≤ 64) (sq : PyData.canLayAll0 xs = true) (hu : A.units + 65 < cLine)
    (h : Q (.bool (xs.any fun y => PyData.eqv y p)) H) : t2 X A (compareOp .In) d (.tup ds) H Q := fun s Z v u o r r' => by
  obtain ⟨_, rp⟩ := o.readAt r .z hp
  obtain ⟨_, rq⟩ := o.readAt r' .z hq
  exact SeqAt.in_tuple_reads rq rp sq sp (min_depth hu dp) (.now o (.bool _) h)

/-! items -/
theorem t2_itemT {oe ie : Expr} {od kd : D} {ds : List D} {k : Int} {d : D} {Q : D → Hp → Prop} (eo : od = .tup ds) (ek : kd = .int k) (h0 : 0 ≤ k) (hk : k < 2 ^ 63) (hd : ds[k.toNat]? = some d) (h : Q d H)
    (hs : ∀ a u, subscripted ie false (.ref a) (.int k u) = operate [.ref a, .int k u] (getItem (.ref a) (.int k u)) := by intro _ _; with_unfolding_all rfl) : t2 X A (subscriptTail oe ie) od kd H Q := fun s Z v u o r r' => by
  subst eo; subst ek
  obtain ⟨l, vs, rfl, ht, rs⟩ := o.tupAt r
  obtain ⟨_, rfl⟩ := r'.toInt
  obtain ⟨x, hx, rx⟩ := rs.get hd
  have hlt : k.toNat < vs.size := by
    have := List.getElem?_eq_some_iff.mp hx
    simpa using this.1
  refine tail_any ht.typeIs slot_tuple_getitem.lookup (getItem_tuple (x := x) ht (by omega) hk (j := k.toNat) ?_ (by simpa using hx) (.now o rx h)) (hs _ _)
  have e1 : ¬ (k < 0) := by omega
  have e2 : (decide (0 ≤ k) && decide (k < (vs.size : Int))) = true := by simp; omega
  show (if (decide (0 ≤ if k < 0 then k + vs.size else k) && decide ((if k < 0 then k + vs.size else k) < vs.size)) = true then some (if k < 0 then k + vs.size else k).toNat else none) = some k.toNat
  rw [if_neg e1, if_pos e2]
theorem t2_itemL {oe ie : Expr} {d kd : D} {ds : List D} {k : Int} {e : D} {Q : D → Hp → Prop} (ha : At H d (.lst ds)) (ek : kd = .int k) (h0 : 0 ≤ k) (hk : k < 2 ^ 63) (hd : ds[k.toNat]? = some e) (h : Q e H)
    (hs : ∀ a u, subscripted ie false (.ref a) (.int k u) = operate [.ref a, .int k u] (getItem (.ref a) (.int k u)) := by intro _ _; with_unfolding_all rfl) : t2 X A (subscriptTail oe ie) d kd H Q := fun s Z v u o r r' => by
  subst ek
  obtain ⟨l, vs, rfl, ht, rs⟩ := o.listAt r ha
  have ht := isList_of_plain ht
  obtain ⟨_, rfl⟩ := r'.toInt
  obtain ⟨x, hx, rx⟩ := rs.get hd
  exact tail_any ht.typeIs slot_list_getitem.lookup (wpAny_getItem_list (x := x) ht h0 hk (by simpa using hx) (.now o rx h)) (hs _ _)
end
end Mine

end

noncomputable section
open PySem PySem.W PySem.Calls PyProof.Rows
set_option maxHeartbeats 1000000
namespace Mine
section
variable {X : Cx} {A : Around} {s s' s'' : Shared} {Z Z' : ZMap} {H H' : Hp} {env : Env} {σ σ' : Sto}

theorem tAll_or {e : Expr} {es : List Expr} {Q : Bool → Hp → Prop} (h : tT X A env e σ H (fun t H₁ => if t = true then Q true H₁ else tAll X A env .Or es σ H₁ Q)) : tAll X A env .Or (e :: es) σ H Q := by
  unfold tAll
  refine fun s Z i => wpAny_mono (h s Z i) (fun t s' p => ?_) fun _ _ f => f
  obtain ⟨Z', H', e', o, q⟩ := p
  refine ⟨Z', H', e', o, ?_⟩
  cases t
  · exact q
  · exact q
theorem tAll_and {e : Expr} {es : List Expr} {Q : Bool → Hp → Prop} (h : tT X A env e σ H (fun t H₁ => if t = true then tAll X A env .And es σ H₁ Q else Q false H₁)) : tAll X A env .And (e :: es) σ H Q := by
  unfold tAll
  refine fun s Z i => wpAny_mono (h s Z i) (fun t s' p => ?_) fun _ _ f => f
  obtain ⟨Z', H', e', o, q⟩ := p
  refine ⟨Z', H', e', o, ?_⟩
  cases t
  · exact q
  · exact q
theorem tAll_or0 {Q : Bool → Hp → Prop} (h : Q false H) : tAll X A env .Or [] σ H Q := h
theorem tAll_and0 {Q : Bool → Hp → Prop} (h : Q true H) : tAll X A env .And [] σ H Q := h
theorem tBO_one {op : BoolOp} {e : Expr} {Q : D → Hp → Prop} (h : tE X A env e σ H Q) : tBO X A env op [e] σ H Q := h
theorem b1.mono {f : Value → Sem Bool} {d : D} {Q Q' : Bool → Hp → Prop} (t : b1 X A f d H Q) (h : ∀ b H', Q b H' → Q' b H') : b1 X A f d H Q' :=
  fun s Z v o r => wpAny_mono (t s Z v o r) (fun _ _ ⟨Z', H', e, o, q⟩ => ⟨Z', H', e, o, h _ _ q⟩) fun _ _ f => f
theorem tBO_or {e e' : Expr} {es : List Expr} {Q : D → Hp → Prop} (h : tE X A env e σ H (fun d H₁ => b1 X A truthy d H₁ (fun t H₂ => if t = true then Q d H₂ else tBO X A env .Or (e' :: es) σ H₂ Q))) : tBO X A env .Or (e :: e' :: es) σ H Q := by
  unfold tBO
  refine tE.mono h fun d H₁ q => b1.mono q fun t H₂ q => ?_
  cases t
  · exact q
  · exact q
theorem tBO_and {e e' : Expr} {es : List Expr} {Q : D → Hp → Prop} (h : tE X A env e σ H (fun d H₁ => b1 X A truthy d H₁ (fun t H₂ => if t = true then tBO X A env .And (e' :: es) σ H₂ Q else Q d H₂))) : tBO X A env .And (e :: e' :: es) σ H Q := by
  unfold tBO
  refine tE.mono h fun d H₁ q => b1.mono q fun t H₂ q => ?_
  cases t
  · exact q
  · exact q
theorem tL_nil {Q : List D → Hp → Prop} (h : Q [] H) : tL X A env [] σ H Q := h
theorem tL_cons {e : Expr} {es : List Expr} {Q : List D → Hp → Prop} (h : tE X A env e σ H (fun d H₁ => tL X A env es σ H₁ (fun ds H₂ => Q (d :: ds) H₂))) : tL X A env (e :: es) σ H Q := h
theorem ite_t {P Q : Prop} (h : P) : if (true = true) then P else Q := h
theorem ite_f {P Q : Prop} (h : Q) : if (false = true) then P else Q := h
theorem ite_ct {c : Bool} {P Q : Prop} (e : c = true) (h : P) : if (c = true) then P else Q := by rw [if_pos e]; exact h
theorem ite_cf {c : Bool} {P Q : Prop} (e : c = false) (h : Q) : if (c = true) then P else Q := by rw [if_neg (by rw [e]; decide)]; exact h
theorem itB {b : Bool} {P Q : Prop} (ht : b = true → P) (hf : b = false → Q) : if b = true then P else Q := by
  cases b
  · exact hf rfl
  · exact ht rfl
theorem exB {b : Bool} {Q : Bool → Prop} (h : Q b) : ∃ t, D.bool b = .bool t ∧ Q t := ⟨b, rfl, h⟩
theorem exR {f : Value} {P : Value → Prop} (h : P f) : ∃ g, D.raw f = .raw g ∧ P g := ⟨f, rfl, h⟩
theorem subR {H : Hp} {P : Hp → Prop} (h : P H) : ∃ H'', Sub H'' H ∧ P H'' := ⟨H, .refl H, h⟩
end
end Mine

/-! the walk's own steps, by the shape of the goal -/

end

noncomputable section
open PySem PySem.W PySem.Calls PyProof.Rows
set_option maxHeartbeats 1000000
namespace Mine
section
variable {X : Cx} {A : Around} {s s' s'' s₀ : Shared} {Z Z' : ZMap} {H H' : Hp} {env : Env} {σ σ' : Sto}

/-! iterators -/
theorem ItOk.arr {I a : Addr} {items : Array Value} {ds : List D} {St : Nat → Heap → Prop} (W : Walks X.prog X.w A I [I, a] [I] items.size (fun i v => items[i]? = some v) St) (rs : Reps X Z items.toList ds) (hst : St 0 s.heap)
    (hI : s₀.heap.get? I = none) (ha : Z a ≠ none) (hhas : ∀ i h', St i h' → h'.get? I ≠ none) : ItOk X A s₀ (.ref I) s Z ds := by
  have e : items.size = ds.length := by rw [← rs.length, Array.length_toList]
  refine ⟨I, [I, a], [I], _, St, rfl, e ▸ W, hst, fun i v hv => rs.getV (by simpa using hv), fun b hb => by rw [List.mem_singleton.mp hb]; exact hI, fun b hb => ?_, fun i h' st b hb => by rw [List.mem_singleton.mp hb]; exact hhas i h' st⟩
  rcases List.mem_cons.mp hb with rfl | hb
  · exact .inl (List.mem_singleton.mpr rfl)
  · rw [List.mem_singleton.mp hb]; exact .inr ha
theorem has_of {h : Heap} {a : Addr} {o : Obj} (e : h.get? a = some o) : h.get? a ≠ none := by rw [e]; simp
theorem get_size (h : Heap) : h.get? h.objs.size = none := Heap.get?_none_of_le (Nat.le_refl _)
theorem ne_size {h : Heap} {a : Addr} {o : Obj} (e : h.get? a = some o) : a ≠ h.objs.size := Nat.ne_of_lt (Heap.lt_size e)

theorem tIt_lst {ds : List D} {G : List D → Prop} (hh : A.handled = none) (h : G ds) : tIt X A (.lst ds) H G := fun s Z v o r => by
  cases r with
  | @cont a _ _ hz r => cases r with
    | @lst _ vs ep _ hc rs =>
      have ho := o.z _ _ hz
      subst hc
      refine wpAny_pyIter_list ⟨_, ho, rfl, _, rfl⟩ ?_
      have k := fun b o (e : s.heap.get? b = some o) => Heap.get?_push_of_some ({ cls := .type "list_iterator", data := .fields #[.ref a, .int 0 0] } : Obj) e
      refine ⟨ds, Ev.keeps (tk := s.toks) k, o.keeps (tk := s.toks) k, ItOk.arr (Walks.list hh _ _ (ne_size ho) _) rs ⟨⟨_, Heap.get?_push_size _ rfl, rfl, rfl⟩, ⟨_, k _ _ ho, rfl, _, rfl⟩⟩ (get_size _) (by rw [hz]; simp) ?_, h⟩
      rintro i h' ⟨⟨_, e, _⟩, _⟩
      exact has_of e
theorem tIt_tup {ds : List D} {G : List D → Prop} (hh : A.handled = none) (h : G ds) : tIt X A (.tup ds) H G := fun s Z v o r => by
  cases r with
  | @cont a _ _ hz r => cases r with
    | @tup _ vs ep _ hc hd rs =>
      have ho := o.z _ _ hz
      have hT : s.heap.IsTuple _ _ := ⟨_, ho, hc, _, hd⟩
      refine wpAny_pyIter_tuple hT ?_
      have k := fun b o (e : s.heap.get? b = some o) => Heap.get?_push_of_some ({ cls := .type "tuple_iterator", data := .fields #[.ref a, .int 0 0] } : Obj) e
      refine ⟨ds, Ev.keeps (tk := s.toks) k, o.keeps (tk := s.toks) k, ItOk.arr (Walks.tuple hh _ _ (ne_size ho) _) rs ⟨⟨_, Heap.get?_push_size _ rfl, rfl, rfl⟩, ⟨_, k _ _ ho, hc, _, hd⟩⟩ (get_size _) (by rw [hz]; simp) ?_, h⟩
      rintro i h' ⟨⟨_, e, _⟩, _⟩
      exact has_of e
theorem tIt_rng {n : Nat} {G : List D → Prop} (hh : A.handled = none) (hn : n < 2 ^ 62) (h : G ((List.range n).map fun i : Nat => D.int i)) : tIt X A (.rng n) H G := fun s Z v o r => by
  cases r with
  | cont hz r => cases r with
    | rng hc =>
      have ho := o.z _ _ hz
      rw [hc] at ho
      refine wpAny_pyIter_range ho (small_one (by omega) (by omega) (by omega) (by omega)) ?_
      rw [rangeSize_one]
      have hs : (if (0 : Int) < (n : Int) then (n : Int) - 0 else 0) = (n : Int) := by split <;> omega
      rw [hs]
      have k := fun b o (e : s.heap.get? b = some o) => Heap.get?_push_of_some ({ cls := .type "range_iterator", data := .fields #[rawInt 0, rawInt n, rawInt 1] } : Obj) e
      have W : Walks X.prog X.w A s.heap.objs.size [s.heap.objs.size] [s.heap.objs.size] n _ _ := Walks.range hh s.heap.objs.size 0 1 n
      refine ⟨_, Ev.keeps (tk := s.toks) k, o.keeps (tk := s.toks) k, ⟨s.heap.objs.size, [s.heap.objs.size], [s.heap.objs.size], fun i v => i < n ∧ ∃ t, v = .int i t, fun i h => IsRangeIter h s.heap.objs.size (0 + (i : Nat) * 1) ((n : Int) - (i : Nat)) 1 ∧ i ≤ n, rfl, ?_, ⟨?_, Nat.zero_le _⟩, ?_, ?_, ?_, ?_⟩, h⟩
      · rw [List.length_map, List.length_range]
        refine ⟨W.sub, fun i h h' st hk => ⟨W.frame i h h' st.1 hk, st.2⟩, fun i s Q E hi st hQ => W.item i s Q E hi st.1 fun v h' tk hv st' hk => hQ v h' tk ⟨hi, ?_⟩ ⟨st', hi⟩ hk, fun s Q E st hQ => W.done s Q E st.1 hQ, fun i s Q E st hQ => W.self i s Q E st.1 hQ⟩
        obtain ⟨t, rfl⟩ := hv
        exact ⟨t, by congr 1; omega⟩
      · have := Heap.get?_push_size s.heap (o := ({ cls := .type "range_iterator", data := .fields #[rawInt 0, rawInt n, rawInt 1] } : Obj)) rfl
        simpa using this
      · rintro i v ⟨hi, t, rfl⟩
        exact ⟨.int i, by simp [hi], .int _ _⟩
      · intro b hb; rw [List.mem_singleton.mp hb]; exact get_size _
      · intro b hb; exact .inl hb
      · rintro i h' ⟨st, _⟩ b hb
        rw [List.mem_singleton.mp hb]; exact has_of st
theorem tIt_idict {ks : List Int} {ds : List D} {G : List D → Prop} (hh : A.handled = none) (h : G (ks.map .int)) : tIt X A (.idict ks ds) H G := fun s Z v o r => by
  cases r with
  | cont hz r => cases r with
    | @idict _ es ep kvs _ _ hc hd hk hp hn e rs =>
      rename_i a ob
      have ho := o.z _ _ hz
      have hD : s.heap.DictAt (intKind X.prog X.w) a kvs ep := ⟨ob, es, ho, hc, hd, hk, hp, hn⟩
      have hm : a ≠ sysModules := Nat.ne_of_gt (o.low a (.inl (by rw [hz]; simp)))
      refine wpAny_pyIter_dict (by simpa using hm) hD ?_
      have k := fun b o (e : s.heap.get? b = some o) => Heap.get?_push_of_some ({ cls := .type "dict_keyiterator", data := .fields #[.ref a, .int 0 0, .int kvs.length 0, .int ep 0] } : Obj) e
      subst e
      refine ⟨_, Ev.keeps (tk := s.toks) k, o.keeps (tk := s.toks) k, ⟨s.heap.objs.size, [s.heap.objs.size, a], [s.heap.objs.size], fun i v => ∃ k x, kvs[i]? = some (k, x) ∧ (intKind X.prog X.w).is k v = true, fun i h => h.IsKeyIter s.heap.objs.size a i kvs.length ep ∧ Heap.DictAt (intKind X.prog X.w) h a kvs ep, rfl, by rw [List.length_map, List.length_map]; exact Walks.dictKeys (knd := intKind X.prog X.w) hh s.heap.objs.size a (ne_size ho) kvs ep, ⟨⟨_, Heap.get?_push_size _ rfl, rfl, rfl⟩, hD.push _⟩, ?_, ?_, ?_, ?_⟩, h⟩
      · rintro i v ⟨key, x, hx, hv⟩
        obtain ⟨t, rfl⟩ := Value.isInt_shape hv
        exact ⟨.int key, by simp [hx], .int _ _⟩
      · intro b hb; rw [List.mem_singleton.mp hb]; exact get_size _
      · intro b hb
        rcases List.mem_cons.mp hb with rfl | hb
        · exact .inl (List.mem_singleton.mpr rfl)
        · rw [List.mem_singleton.mp hb]; exact .inr (by rw [hz]; simp)
      · rintro i h' ⟨⟨_, e, _⟩, _⟩ b hb
        rw [List.mem_singleton.mp hb]; exact has_of e

/-! calls of the machine's own -/
theorem tC_len {d : D} {ds : List D} {Q : D → Hp → Prop} (ha : At H d (.lst ds)) (hz : ds.length < 2 ^ 62) (h : Q (.int ds.length) H) : tC X A (.builtin "len") [d] H Q := fun s Z vs o r => by
  (obtain ⟨v, hv, r1⟩ := r.one); clear r; subst hv; have r := r1
  obtain ⟨l, vs, rfl, hl, rs⟩ := o.listAt r ha
  have e : vs.size = ds.length := by rw [← rs.length, Array.length_toList]
  exact Calls.call_len_list hl.isList (by rw [e]; omega) (by rw [e]; exact .tok _ o (.int _ _) h)
theorem tC_lenT {ds : List D} {Q : D → Hp → Prop} (hz : ds.length < 2 ^ 62) (h : Q (.int ds.length) H) : tC X A (.builtin "len") [.tup ds] H Q := fun s Z vs o r => by
  (obtain ⟨v, hv, r1⟩ := r.one); clear r; subst hv; have r := r1
  obtain ⟨l, vs, rfl, hl, rs⟩ := o.tupAt r
  have e : vs.size = ds.length := by rw [← rs.length, Array.length_toList]
  exact len_tuple hl (by rw [e]; omega) (by rw [e]; exact .tok _ o (.int _ _) h)
theorem PE.newZ {Q : D → Hp → Prop} {h' : Heap} {tk : Nat} {a : Addr} {ob : Obj} {d : D} (o : Ok X s Z H) (k : ∀ b o, s.heap.get? b = some o → h'.get? b = some o) (hn : s.heap.get? a = none) (hl : sysModules < a) (ho : h'.get? a = some ob)
    (r : ORep X Z ob d) (q : Q d H) : PE X s Z H Q (.ref a) { s with heap := h', toks := tk } :=
  ⟨_, _, d, Ev.newZ o k hn, o.newZ k hn hl ho, .cont zput_self (r.mono (zput_le (o.none_z hn))), q⟩
theorem PE.newH {Q : D → Hp → Prop} {h' : Heap} {tk : Nat} {a : Addr} {ob : Obj} {d : D} (o : Ok X s Z H) (k : ∀ b o, s.heap.get? b = some o → h'.get? b = some o) (hn : s.heap.get? a = none) (hl : sysModules < a) (ho : h'.get? a = some ob)
    (r : ORep X Z ob d) (q : H a = none → Q (.raw (.ref a)) (hput H a d)) : PE X s Z H Q (.ref a) { s with heap := h', toks := tk } :=
  ⟨_, _, .raw _, Ev.newH k hn, o.newH k hn hl ho r, .raw _, q (o.none_h hn)⟩
theorem tC_range {n : Int} {Q : D → Hp → Prop} (h : Q (.rng n) H) : tC X A (.type "range") [.int n] H Q := fun s Z vs o r => by
  (obtain ⟨v, hv, r1⟩ := r.one); clear r; subst hv; have r := r1
  obtain ⟨_, rfl⟩ := r.toInt
  exact call_range_1 (PE.newZ o (fun b o e => Heap.get?_push_of_some _ e) (get_size _) o.big (Heap.get?_push_size _ rfl) (.rng rfl) h)
theorem tC_min {i j : Int} {Q : D → Hp → Prop} (hh : A.handled = none) (h : Q (.int (if j < i then j else i)) H) : tC X A (.builtin "min") [.int i, .int j] H Q := fun s Z vs o r => by
  cases r with | cons r rn => cases rn with | cons r' rn => cases rn with | nil =>
  obtain ⟨t, rfl⟩ := r.toInt; obtain ⟨u, rfl⟩ := r'.toInt
  refine PySem.Flt.min_two_num hh (.int _ _) (.int _ _) fun h' tk k => ?_
  refine ⟨Z, H, _, .keeps k, o.keeps k, ?_, h⟩
  have e : PySem.Flt.ltV (Value.int j u) (Value.int i t) = decide (j < i) := rfl
  rw [e]
  by_cases hq : j < i
  · simp only [hq, decide_true, if_true]; exact .int _ _
  · simp only [hq, decide_false, if_false, Bool.false_eq_true]; exact .int _ _
theorem tC_tuple {ds : List D} {Q : D → Hp → Prop} (hz : ds.length ≤ sizeLine) (h : Q (.tup ds) H) : tC X A (.type "tuple") [.lst ds] H Q := fun s Z vs o r => by
  (obtain ⟨v, hv, r1⟩ := r.one); clear r; subst hv; have r := r1
  obtain ⟨l, vs, rfl, hl, rs⟩ := o.listAt r .z
  have e : vs.size = ds.length := by rw [← rs.length, Array.length_toList]
  refine call_tuple_list hl.isList (fun h' k => ?_) (by rw [e]; exact hz)
  have hn : s.heap.get? h'.objs.size = none := by
    cases q : s.heap.get? h'.objs.size with
    | none => rfl
    | some ob => have := k _ _ q; rw [get_size] at this; cases this
  exact PE.newZ (tk := s.toks) o (fun b o e => Heap.get?_push_of_some _ (k b o e)) hn (modules_low (X.lim.keeps fun b ob e => k b ob (o.base b ob e))) (Heap.get?_push_size _ rfl) (.tup rfl rfl rs) h
theorem tC_append {a : Addr} {ds : List D} {d : D} {Q : D → Hp → Prop} (ha : H a = some (.lst ds)) (hz : ds.length ≤ sizeLine) (h : Q .none (hput H a (.lst (ds ++ [d])))) : tC X A (.builtin "list.append") [.raw (.ref a), d] H Q := fun s Z vs o r => by
  cases r with | cons r rn => cases rn with | cons r' rn => cases rn with | nil =>
  obtain ⟨l, vs, e, hl, rs⟩ := o.listAt r (.h ha)
  have e2 := r.raw_eq
  rw [e] at e2; cases e2; subst e
  have e : vs.size = ds.length := by rw [← rs.length, Array.length_toList]
  refine wpAny_list_append_plain hl (fun h' hl' hs => ?_) (by rw [e]; exact hz)
  obtain ⟨n, ho⟩ := hl'
  exact ⟨Z, _, .none, Ev.setH (tk := s.toks) hs ha ho, o.setH (tk := s.toks) hs ha ho (.lst rfl (by rw [Array.toList_push]; exact rs.append (.cons r' .nil))), .none, h⟩
theorem tC_pop {a : Addr} {ds : List D} {d : D} {Q : D → Hp → Prop} (ha : H a = some (.lst ds)) (hz : ds.length ≤ sizeLine) (hd : ds.getLast? = some d) (h : Q d (hput H a (.lst ds.dropLast))) : tC X A (.builtin "list.pop") [.raw (.ref a)] H Q := fun s Z vs o r => by
  (obtain ⟨v, hv, r1⟩ := r.one); clear r; subst hv; have r := r1
  obtain ⟨l, vs, e, ⟨n, hl⟩, rs⟩ := o.listAt r (.h ha)
  have e2 := r.raw_eq
  rw [e] at e2; cases e2; subst e
  have e : vs.size = ds.length := by rw [← rs.length, Array.length_toList]
  rw [List.getLast?_eq_getElem?] at hd
  obtain ⟨x, hx, rx⟩ := rs.get hd
  refine Copied.pop_at hl (y := x) (by rw [e]; simpa using hx) (fun h' hs ho => ?_) (by rw [e]; exact hz)
  exact ⟨Z, _, d, Ev.setH (tk := s.toks) hs ha ho, o.setH (tk := s.toks) hs ha ho (.lst rfl (by rw [Array.toList_pop]; exact rs.dropLast)), rx, h⟩
theorem tG_list {name : Str} {id : String} {a : Addr} {ds : List D} {Q : Value → List D → Prop} (slot : Slot "list" name id) (hty : typeOf (.builtin id) = pure (.type "method_descriptor")) (ha : H a = some (.lst ds))
    (h : Q (.builtin id) [.raw (.ref a)]) : tG X A name (.raw (.ref a)) H Q := fun s Z v pl o r => by
  obtain ⟨l, vs, e, ⟨n, hl⟩, rs⟩ := o.listAt r (.h ha)
  have e2 := r.raw_eq
  rw [e] at e2; cases e2; subst e
  exact getMethod_list_of slot hty ⟨_, hl, rfl, n, rfl⟩ ⟨_, hl, rfl⟩ ⟨s.toks, _, rfl, .cons r .nil, h⟩
theorem tG_append {a : Addr} {ds : List D} {Q : Value → List D → Prop} (ha : H a = some (.lst ds)) (h : Q (.builtin "list.append") [.raw (.ref a)]) : tG X A "append" (.raw (.ref a)) H Q :=
  tG_list PySem.F.slot_list_append PySem.F.type_list_append ha h
theorem tG_pop {a : Addr} {ds : List D} {Q : Value → List D → Prop} (ha : H a = some (.lst ds)) (h : Q (.builtin "list.pop") [.raw (.ref a)]) : tG X A "pop" (.raw (.ref a)) H Q :=
  tG_list PySem.F.slot_list_pop PySem.F.type_list_pop ha h
theorem keep_builtin {id : String} : KeepOk X (.builtin id) := .inr fun _ e => by cases e
theorem keep_type {id : String} : KeepOk X (.type id) := .inr fun _ e => by cases e

/-! list + list, slices, list[k] = v -/
theorem t2_addL {d e : D} {ds es : List D} {Q : D → Hp → Prop} (ha : At H d (.lst ds)) (hb : At H e (.lst es)) (hz : ds.length + es.length ≤ sizeLine) (h : Q (.lst (ds ++ es)) H) : t2 X A (binaryOp .Add) d e H Q := fun s Z v u o r r' => by
  obtain ⟨l, vs, rfl, ⟨n, hl⟩, rs⟩ := o.listAt r ha
  obtain ⟨l', vs', rfl, ⟨n', hl'⟩, rs'⟩ := o.listAt r' hb
  have e1 : vs.size = ds.length := by rw [← rs.length, Array.length_toList]
  have e2 : vs'.size = es.length := by rw [← rs'.length, Array.length_toList]
  exact concat_meets ⟨_, hl, rfl⟩ ⟨_, hl', rfl⟩ noFill_list_add seq_list_add PySem.F.slot_list_add PySem.F.entry_list_add (PySem.F.args_list_add_2 _ _) (list_addW l l' vs vs' n n' _ _ _ _ (by rw [e1, e2]; exact hz))
    ⟨hl, hl', PE.newZ o (fun b o e => Heap.get?_push_of_some _ e) (get_size _) o.big (Heap.get?_push_size _ rfl) (.lst rfl (by simpa using rs.append rs')) h⟩
theorem t2_addLM {d e : D} {ds es : List D} {Q : D → Hp → Prop} (ha : At H d (.lst ds)) (hb : At H e (.lst es)) (hz : ds.length + es.length ≤ sizeLine) (h : ∀ a, H a = none → Q (.raw (.ref a)) (hput H a (.lst (ds ++ es)))) : t2 X A (binaryOp .Add) d e H Q := fun s Z v u o r r' => by
  obtain ⟨l, vs, rfl, ⟨n, hl⟩, rs⟩ := o.listAt r ha
  obtain ⟨l', vs', rfl, ⟨n', hl'⟩, rs'⟩ := o.listAt r' hb
  have e1 : vs.size = ds.length := by rw [← rs.length, Array.length_toList]
  have e2 : vs'.size = es.length := by rw [← rs'.length, Array.length_toList]
  exact concat_meets ⟨_, hl, rfl⟩ ⟨_, hl', rfl⟩ noFill_list_add seq_list_add PySem.F.slot_list_add PySem.F.entry_list_add (PySem.F.args_list_add_2 _ _) (list_addW l l' vs vs' n n' _ _ _ _ (by rw [e1, e2]; exact hz))
    ⟨hl, hl', PE.newH o (fun b o e => Heap.get?_push_of_some _ e) (get_size _) o.big (Heap.get?_push_size _ rfl) (.lst rfl (by simpa using rs.append rs')) (h _)⟩
end
end Mine

end

noncomputable section
open PySem PySem.W PySem.Calls PyProof.Rows
set_option maxHeartbeats 1000000
namespace Mine
section
variable {X : Cx} {A : Around} {s s' s'' s₀ : Shared} {Z Z' : ZMap} {H H' : Hp} {env : Env} {σ σ' : Sto}

theorem pick_upto (items : Array Value) (k : Nat) : slicePick items none (some (k : Int)) none = (items.toList.take k).toArray := by
  rw [kms_pick_eq]
  unfold kms_pick kms_lo kms_hi
  have h : ¬ ((k : Int) < 0) := by omega
  simp only [h, if_false, List.drop_zero, Int.toNat_natCast, Nat.sub_zero]
  congr 1
  rcases Nat.le_total k items.toList.length with h | h
  · rw [Nat.min_eq_left h]
  · rw [Nat.min_eq_right h, List.take_of_length_le h, List.take_of_length_le (Nat.le_refl _)]

/-- where a slice's object lies -/
theorem slice_upto {u : Expr} {p : Pos} {Q : Value → Shared → Prop} (h : wpAny X.M A (eval u env) (fun v s' => Q (.ref s'.heap.objs.size) { s' with heap := s'.heap.push { cls := .type "slice", data := .fields #[.none, v, .none] } }) No s) :
    wpAny X.M A (eval (.Slice none (some u) none p) env) Q No s := by
  refine wpAny_Slice ?_
  rw [evalPart_none, evalPart_some]
  exact wpAny_pure (wpAny_mono h (fun v s' h => wpAny_pure h) fun _ _ f => f)

theorem tE_SliceL {oe u : Expr} {p pos : Pos} {Q : D → Hp → Prop}
    (h : tE X A env oe σ H (fun a H₁ => tE X A env u σ H₁ (fun b H₂ => ∃ (ds : List D) (k : Nat), At H₂ a (.lst ds) ∧ b = .int k ∧ ds.length ≤ sizeLine ∧ Q (.lst (ds.take k)) H₂))) :
    tE X A env (.Subscript oe (.Slice none (some u) none p) pos) σ H Q := fun s Z i => by
  refine Subscript_ (wpAny_mono (h s Z i) (fun ov s₁ p => ?_) fun _ _ f => f)
  obtain ⟨Z₁, H₁, da, e₁, o₁, r₁, q₁⟩ := p
  refine slice_upto (wpAny_mono (q₁ s₁ Z₁ (i.step e₁ o₁)) (fun b s₂ p => ?_) fun _ _ f => f)
  obtain ⟨Z₂, H₂, db, e₂, o₂, r₂, ds, k, ha, rfl, hz, q₂⟩ := p
  obtain ⟨l, vs, rfl, ⟨n, hl⟩, rs⟩ := o₂.listAt (r₁.mono e₂.zle) ha
  obtain ⟨t, rfl⟩ := r₂.toInt
  have e : vs.size = ds.length := by rw [← rs.length, Array.length_toList]
  have k1 := fun b o (e : s₂.heap.get? b = some o) => Heap.get?_push_of_some ({ cls := .type "slice", data := .fields #[.none, .int k t, .none] } : Obj) e
  have hT : (s₂.heap.push { cls := .type "slice", data := .fields #[.none, .int k t, .none] }).IsList l vs := ⟨_, k1 _ _ hl, rfl, n, rfl⟩
  have o₃ : Ok X { s₂ with heap := s₂.heap.push { cls := .type "slice", data := .fields #[.none, .int k t, .none] }, toks := s₂.toks } Z₂ H₂ := o₂.keeps k1
  have e₃ : Ev s₂ Z₂ H₂ nil { s₂ with heap := s₂.heap.push { cls := .type "slice", data := .fields #[.none, .int k t, .none] }, toks := s₂.toks } Z₂ H₂ := .keeps k1
  refine tail_any (ops := [.ref s₂.heap.objs.size, .ref l]) (s := { s₂ with heap := s₂.heap.push { cls := .type "slice", data := .fields #[.none, .int k t, .none] } }) hT.typeIs list_getitem_lookup
    (wpAny_getItem_list_slice hT (Heap.IsSliceOf.new ..) .none (.int k t) .none (by simp) ?_ (by rw [e]; exact hz)) (by with_unfolding_all rfl)
  rw [pick_upto]
  refine PE.trans ((e₁.trans e₂).trans e₃) (PE.newZ (tk := s₂.toks) o₃ (fun b o e => Heap.get?_push_of_some _ e) (get_size _) o₃.big (Heap.get?_push_size _ rfl) (.lst rfl ?_) q₂)
  exact rs.take

theorem upto_parts {sl : Addr} {k n : Nat} {u : Tok} {Q : Int × Int × Nat → Shared → Prop} (hs : s.heap.IsSliceOf sl .none (.int k u) .none) (h : Q (0, 1, min k n) s) :
    wpAny X.M A (Builtin.Slice.sliceApplied (.ref sl) (pure (n : Int))) Q No s := by
  obtain ⟨os, hos, hcs, hds⟩ := id hs
  unfold Builtin.Slice.sliceApplied Builtin.Slice.sliceFields
  refine wpAny_bind (wpAny_bind (wpAny_field hos hds (x := .none) rfl (wpAny_bind (wpAny_field hos hds (x := .int k u) rfl (wpAny_bind (wpAny_field hos hds (x := .none) rfl (wpAny_pure ?_)))))))
  refine wpAny_bind (slicePart_none ?_)
  show wpAny _ _ (if ((1 : Int) == 0) = true then _ else _) _ _ s
  rw [if_neg (by decide)]
  refine wpAny_bind (slicePart_none (wpAny_bind (slicePart_int (wpAny_bind (wpAny_pure ?_)))))
  have e : Builtin.Slice.sliceAdjust none (some (k : Int)) 1 (n : Int) = ((0 : Int), ((min k n : Nat) : Int)) := by
    unfold Builtin.Slice.sliceAdjust
    have h1 : ¬ ((1 : Int) < 0) := by omega
    have h2 : ¬ ((k : Int) < 0) := by omega
    simp only [h1, h2, if_false]
    congr 1
    omega
  show wpAny _ _ (match Builtin.Slice.sliceAdjust none (some (k : Int)) 1 (n : Int) with | (lo, hi) => pure (lo, (1 : Int), Builtin.Slice.slicePlaces lo hi 1)) _ _ s
  rw [e]
  have e2 : Builtin.Slice.slicePlaces 0 ((min k n : Nat) : Int) 1 = min k n := by
    unfold Builtin.Slice.slicePlaces
    have h1 : (1 : Int) > 0 := by omega
    simp only [h1, if_true, Int.ediv_one]
    split <;> omega
  show wpAny _ _ (pure ((0 : Int), (1 : Int), Builtin.Slice.slicePlaces 0 ((min k n : Nat) : Int) 1)) _ _ s
  rw [e2]
  exact wpAny_pure h
theorem pick_range (xs : Array Value) (m : Nat) : ((List.range m).filterMap fun (k : Nat) => xs[((0 : Int) + (k : Int) * 1).toNat]?).toArray = (xs.toList.take m).toArray := by
  have e : (fun (k : Nat) => xs[((0 : Int) + (k : Int) * 1).toNat]?) = fun k => xs.toList[k]? := by
    funext k
    have : ((0 : Int) + (k : Int) * 1).toNat = k := by omega
    rw [this, Array.getElem?_toList]
  rw [e]
  congr 1
  induction m with
  | zero => simp
  | succ m ih =>
    rw [List.range_succ, List.filterMap_append, ih, List.take_add_one]
    congr 1
theorem getItem_tuple_upto {t sl : Addr} {items : Array Value} {k : Nat} {u : Tok} {Q : Value → Shared → Prop} (ht : IsTup s.heap t items) (hs : s.heap.IsSliceOf sl .none (.int k u) .none)
    (h1 : items.size ≤ k → Q (.ref t) s)
    (h2 : Q (.ref s.heap.objs.size) { s with heap := s.heap.push { cls := .type "tuple", data := .seq (items.toList.take k).toArray } })
    (hsz : items.size ≤ sizeLine) : wpAny X.M A (getItem (.ref t) (.ref sl)) Q No s := by
  obtain ⟨os, hos, hcs, hds⟩ := id hs
  have hTs : s.TypeIs (.ref sl) "slice" := ⟨os, hos, hcs⟩
  unfold getItem
  try with_reducible refine wpAny_holding ?_
  first | refine wpAny_bind (wpAny_pure ?_) | skip
  refine wpAny_bind (wpAny_sequenceKey ht.typeIs (by decide) ?_)
  refine wpAny_bind (wpAny_callSpecial?_slot (name := Str.ofString "__getitem__") ht.typeIs slot_tuple_getitem
    (wpAny_call_entry slot_tuple_getitem ht.typeIs entry_tuple_getitem ?_ (args_tuple_getitem _ _)))
  show wpAny _ _ (Builtin.Tuple.tupleItemsOf (.ref t) >>= _) _ _ s
  refine wpAny_bind (tupleItemsOf_ ht ?_)
  refine wpAny_bind (wpAny_typeOf hTs ?_)
  rw [if_pos (by decide)]
  refine wpAny_bind (upto_parts (n := items.size) hs ?_)
  show wpAny _ _ (if ((0 : Int) == 0 && (1 : Int) == 1 && (min k items.size) == items.size) = true then _ else _) _ _ s
  have hz2 : sizeOk (.seq (items.toList.take k).toArray) := by
    show (items.toList.take k).toArray.size ≤ sizeLine
    rw [List.size_toArray, List.length_take, Array.length_toList]; omega
  have e : (items.toList.take (min k items.size)) = items.toList.take k := by
    rcases Nat.le_total k items.size with h | h
    · rw [Nat.min_eq_left h]
    · rw [Nat.min_eq_right h, List.take_of_length_le (by rw [Array.length_toList]; exact Nat.le_refl _), List.take_of_length_le (by rw [Array.length_toList]; exact h)]
  by_cases hw : items.size ≤ k
  · rw [if_pos (by simp [Nat.min_eq_right hw])]
    refine wpAny_bind ?_
    unfold Builtin.Tuple.tupleIsExact
    first
      | refine wpAny_bind (wpAny_typeOf ht.typeIs (wpAny_pure ?_))
      | refine wpAny_bind (wpAny_bind (wpAny_typeOf ht.typeIs (wpAny_pure ?_)))
    rw [if_pos (by decide)]
    exact wpAny_bind (wpAny_rule (wpAny_pure ⟨_, rfl, wpAny_pure (h1 hw)⟩))
  · rw [if_neg (by simp; omega)]
    rw [pick_range, e]
    exact wpAny_bind (m := Builtin.Tuple.tupleExact _) (wpAny_newObj_type (wpAny_pure ⟨_, rfl, wpAny_pure h2⟩) hz2)

/-- list[k] = v -/
theorem setItem_plain {l : Addr} {items : Array Value} {n : Nat} {ki : Int} {t : Tok} {v : Value} {Q : Unit → Shared → Prop} (ho : s.heap.get? l = some { cls := .type "list", data := .seq items n })
    (h0 : 0 ≤ ki) (hfit : ki < 2 ^ 63) (hn : ki < items.size)
    (hQ : ∀ h', h'.PlainList l (items.setIfInBounds ki.toNat v) → Heap.SameBut l s.heap h' → Q () { s with heap := h' }) :
    wpAny X.M A (setItem (.ref l) (.int ki t) v) Q No s := by
  have hT : s.TypeIs (.ref l) "list" := ⟨_, ho, rfl⟩
  unfold setItem
  try with_reducible refine wpAny_holding ?_
  first | refine wpAny_bind (wpAny_pure ?_) | skip
  refine wpAny_bind (wpAny_sequenceKey hT (by decide) ?_)
  refine wpAny_bind (wpAny_callSpecial?_slot (name := Str.ofString "__setitem__") hT slot_list_setitem
    (wpAny_call_entry slot_list_setitem hT entry_list_setitem ?_ (args_list_setitem _ _ _)))
  show wpAny _ _ (Builtin.List.listSubscript? (.int ki t) >>= _) _ _ s
  refine wpAny_bind (wpAny_listSubscript_int (fitsIndex_of h0 hfit) ?_)
  clear hfit
  obtain ⟨k, rfl⟩ := Int.eq_ofNat_of_zero_le h0
  have hn : k < items.size := by omega
  have hx : items[k]? = some items[k] := Array.getElem?_eq_getElem hn
  show wpAny _ _ ((seqItemAt l k >>= fun r => pure (r.map (k, ·))) >>= _) _ _ s
  refine wpAny_bind (wpAny_bind (wpAny_seqItemAt ho rfl (wpAny_pure ?_)))
  rw [hx]
  show wpAny _ _ (setSeqItemAt l k v >>= _) _ _ s
  have e : ∃ m, Obj.mapSeq (·.setIfInBounds k v) ({ cls := .type "list", data := .seq items n } : Obj) = { cls := .type "list", data := .seq (items.setIfInBounds k v) m } := ⟨_, rfl⟩
  refine wpAny_bind (wpAny_setSeqItemAt ho rfl ?_)
  have hfin : (s.heap.update l (Obj.mapSeq (·.setIfInBounds k v))).PlainList l (items.setIfInBounds k v) := by
    obtain ⟨m, e⟩ := e
    exact ⟨m, by rw [Heap.get?_update_self _ ho (by rw [e]; rfl), e]⟩
  first
    | exact wpAny_bind (wpAny_pure (wpAny_pure ⟨.none, rfl, wpAny_pure (hQ _ hfin (Heap.SameBut.update ..))⟩))
    | exact wpAny_pure ⟨.none, rfl, wpAny_pure (hQ _ hfin (Heap.SameBut.update ..))⟩

theorem tU_setL {a : Addr} {ds : List D} {k : Nat} {kd d : D} {Q : Hp → Prop} (ha : H a = some (.lst ds)) (ek : kd = .int k) (hz : ds.length ≤ sizeLine) (hk : k < ds.length) (h : Q (hput H a (.lst (ds.set k d)))) :
    tU X A setItemOp [.raw (.ref a), kd, d] H Q := fun s Z vs o r => by
  subst ek
  cases r with | cons r rn => cases rn with | cons r1 rn => cases rn with | cons r2 rn => cases rn with | nil =>
  obtain ⟨l, vs, e, ⟨n, hl⟩, rs⟩ := o.listAt r (.h ha)
  have e2 := r.raw_eq
  rw [e] at e2; cases e2; subst e
  obtain ⟨t, rfl⟩ := r1.toInt
  have e : vs.size = ds.length := by rw [← rs.length, Array.length_toList]
  have hsl : sizeLine < 2 ^ 63 := by rw [sizeLine_eq]; decide
  refine setItem_plain hl (Int.natCast_nonneg k) (by omega) (by rw [e]; omega) fun h' ⟨m, ho⟩ hs => ?_
  exact ⟨Z, _, Ev.setH (tk := s.toks) hs ha ho, o.setH (tk := s.toks) hs ha ho (.lst rfl (by rw [Array.toList_setIfInBounds]; exact rs.set r2)), h⟩

theorem tE_SliceT {oe u : Expr} {p pos : Pos} {Q : D → Hp → Prop}
    (h : tE X A env oe σ H (fun a H₁ => tE X A env u σ H₁ (fun b H₂ => ∃ (ds : List D) (k : Nat), a = .tup ds ∧ b = .int k ∧ ds.length ≤ sizeLine ∧ Q (.tup (ds.take k)) H₂))) :
    tE X A env (.Subscript oe (.Slice none (some u) none p) pos) σ H Q := fun s Z i => by
  refine Subscript_ (wpAny_mono (h s Z i) (fun ov s₁ p => ?_) fun _ _ f => f)
  obtain ⟨Z₁, H₁, da, e₁, o₁, r₁, q₁⟩ := p
  refine slice_upto (wpAny_mono (q₁ s₁ Z₁ (i.step e₁ o₁)) (fun b s₂ p => ?_) fun _ _ f => f)
  obtain ⟨Z₂, H₂, db, e₂, o₂, r₂, ds, k, rfl, rfl, hz, q₂⟩ := p
  have r₁ := r₁.mono e₂.zle
  obtain ⟨l, vs, rfl, ⟨ob, hl, hc, n, hd⟩, rs⟩ := o₂.tupAt r₁
  obtain ⟨t, rfl⟩ := r₂.toInt
  have e : vs.size = ds.length := by rw [← rs.length, Array.length_toList]
  have k1 := fun b o (e : s₂.heap.get? b = some o) => Heap.get?_push_of_some ({ cls := .type "slice", data := .fields #[.none, .int k t, .none] } : Obj) e
  have hT : IsTup (s₂.heap.push { cls := .type "slice", data := .fields #[.none, .int k t, .none] }) l vs := ⟨_, k1 _ _ hl, hc, n, hd⟩
  have o₃ : Ok X { s₂ with heap := s₂.heap.push { cls := .type "slice", data := .fields #[.none, .int k t, .none] }, toks := s₂.toks } Z₂ H₂ := o₂.keeps k1
  have e₃ : Ev s₂ Z₂ H₂ nil { s₂ with heap := s₂.heap.push { cls := .type "slice", data := .fields #[.none, .int k t, .none] }, toks := s₂.toks } Z₂ H₂ := .keeps k1
  refine tail_any (ops := [.ref s₂.heap.objs.size, .ref l]) (s := { s₂ with heap := s₂.heap.push { cls := .type "slice", data := .fields #[.none, .int k t, .none] } }) hT.typeIs slot_tuple_getitem.lookup
    (getItem_tuple_upto hT (Heap.IsSliceOf.new ..) (fun hw => ?_) ?_ (by rw [e]; exact hz)) (by with_unfolding_all rfl)
  · refine PE.trans ((e₁.trans e₂).trans e₃) (PE.now o₃ r₁ ?_)
    rw [List.take_of_length_le (by omega)] at q₂
    exact q₂
  · exact PE.trans ((e₁.trans e₂).trans e₃) (PE.newZ (tk := s₂.toks) o₃ (fun b o e => Heap.get?_push_of_some _ e) (get_size _) o₃.big (Heap.get?_push_size _ rfl) (.tup rfl rfl rs.take) q₂)
end
end Mine

end

noncomputable section
open PySem PySem.W PySem.Calls PyProof.Rows
set_option maxHeartbeats 1000000
namespace Mine

noncomputable def D.handed : D → Bool
  | .raw u => handedIn u
  | _ => true
theorem Rep.handed {X : Cx} {Z : ZMap} {v : Value} {d : D} (r : Rep X Z v d) (h : d.handed = true) : handedIn v = true := by
  cases r <;> first | rfl | exact h

noncomputable def setN (x : Str) (d : D) : List Str → List D → List Str × List D
  | n :: ns, e :: es => if n == x then (n :: ns, d :: es) else (n :: (setN x d ns es).1, e :: (setN x d ns es).2)
  | _, _ => ([x], [d])

section
variable {X : Cx} {A : Around} {s s' s'' s₀ : Shared} {Z Z' : ZMap} {H H' : Hp} {env : Env} {σ σ' : Sto}

theorem NamesAre.noRef : ∀ {es : List DictEntry} {names : List Str}, NamesAre es names → es.any (·.refKey) = false
  | _, _, .nil => rfl
  | _, _, .cons (e := e) h r => by
    rw [List.any_cons, r.noRef, Bool.or_false]
    show Value.onHeap e.key = false
    rw [h]; rfl
theorem NamesAre.get {x : Str} : ∀ {es : List DictEntry} {names : List Str} {ds : List D}, NamesAre es names → Reps X Z (es.map (·.val)) ds →
    (∀ d, (names.zip ds).lookup x = some d → ∃ v, getL x es = some (some v) ∧ Rep X Z v d) ∧ ((names.zip ds).lookup x = none → getL x es = some none)
  | _, _, _, .nil, .nil => ⟨fun _ e => by simp at e, fun _ => rfl⟩
  | _, _, _, .cons (e := e) (n := n) h r, .cons (d := d) a rs => by
    obtain ⟨i1, i2⟩ := NamesAre.get (x := x) r rs
    have hk : e.key.isStr x = (n == x) := by rw [h]; rfl
    have hx : (x == n) = (n == x) := by
      rw [Bool.eq_iff_iff, beq_iff_eq, beq_iff_eq]; exact ⟨Eq.symm, Eq.symm⟩
    rw [List.zip_cons_cons]
    simp only [List.lookup_cons, hx]
    have hany := (NamesAre.cons (e := e) h r).noRef
    unfold getL
    rw [List.find?_cons, hk]
    cases q : (n == x) with
    | true => exact ⟨fun d' e' => ⟨_, rfl, by simp at e'; subst e'; exact a⟩, fun e' => by simp at e'⟩
    | false =>
      have hg : ∀ r', getL x ‹List DictEntry› = r' → True := fun _ _ => trivial
      simp only
      unfold getL at i1 i2
      have hr := r.noRef
      rw [hr] at i1 i2
      rw [hany]
      exact ⟨i1, i2⟩
theorem NamesAre.put {x : Str} {hsh : Int} {t : Tok} {v : Value} {d : D} (rv : Rep X Z v d) : ∀ {es : List DictEntry} {names : List Str} {ds : List D}, NamesAre es names → Reps X Z (es.map (·.val)) ds →
    NamesAre (putL x hsh (.str x t) v es) (setN x d names ds).1 ∧ Reps X Z ((putL x hsh (.str x t) v es).map (·.val)) (setN x d names ds).2
  | _, _, _, .nil, .nil => ⟨.cons rfl .nil, .cons rv .nil⟩
  | _, _, _, .cons (e := e) (n := n) h r, .cons (d := d') a rs => by
    obtain ⟨i1, i2⟩ := NamesAre.put (x := x) (hsh := hsh) (t := t) rv r rs
    have hk : e.key.isStr x = (n == x) := by rw [h]; rfl
    unfold putL setN
    rw [hk]
    cases q : (n == x) with
    | true => exact ⟨.cons h r, .cons rv rs⟩
    | false => exact ⟨.cons h i1, .cons a i2⟩
theorem NamesAre.length : ∀ {es : List DictEntry} {names : List Str}, NamesAre es names → es.length = names.length
  | _, _, .nil => rfl
  | _, _, .cons _ r => by simp [r.length]

/-- a class of the text, with plain objects -/
structure ClsOk (X : Cx) (C : Addr) : Prop where
  get : plainGet X.K C "x" = true
  dict : hasDictIn X.K C = true
  over : plainOver X.K C = true
  set : findIn X.K (.ref C) "__setattr__" = some (some (.builtin "object.__setattr__"))

theorem Ok.kin (o : Ok X s Z H) : X.K.In s.heap := X.kin.keeps o.base
/-- where an object's names lie -/
inductive InAt (X : Cx) (h : Heap) (Z : ZMap) (v : Value) (C dx : Addr) (names : List Str) (ds : List D) : Prop
  | mk (x : Addr) (es : List DictEntry) (n : Nat) (e : v = .ref x) (hx : h.get? x = some (instObj C dx)) (hdx : h.get? dx = some (dictOf es n)) (na : NamesAre es names) (rs : Reps X Z (es.map (·.val)) ds)
inductive ObAt (X : Cx) (h : Heap) (Z : ZMap) (v : Value) (C : Addr) (names : List Str) (ds : List D) : Prop
  | mk (x dx : Addr) (es : List DictEntry) (n : Nat) (e : v = .ref x) (hx : h.get? x = some (instObj C dx)) (hdx : h.get? dx = some (dictOf es n)) (na : NamesAre es names) (rs : Reps X Z (es.map (·.val)) ds)
theorem Ok.instAt {v : Value} {C dx : Addr} {names : List Str} {ds : List D} (o : Ok X s Z H) (r : Rep X Z v (.inst C dx)) (h : H dx = some (.ns names ds)) : InAt X s.heap Z v C dx names ds := by
  obtain ⟨ob, ho, ro⟩ := o.h _ _ h
  cases ro with
  | @ns es n _ _ hn rs =>
    cases r with
    | inst hz => exact ⟨_, es, n, rfl, o.z _ _ hz, ho, hn, rs⟩
    | cont hz r => cases r
theorem Ok.objAt {v : Value} {C : Addr} {names : List Str} {ds : List D} (o : Ok X s Z H) (r : Rep X Z v (.obj C names ds)) : ObAt X s.heap Z v C names ds := by
  cases r with
  | obj hz hd r =>
    cases r with
    | @ns es n _ _ hn rs => exact ⟨_, _, es, n, rfl, o.z _ _ hz, o.z _ _ hd, hn, rs⟩
  | cont hz r => cases r
theorem instAt_of {h : Heap} {x C dx : Addr} {od : Obj} (e1 : h.get? x = some (instObj C dx)) (e2 : h.get? dx = some od) : InstAt h x (instObj C dx) C (some od) := ⟨e1, rfl, rfl, e2⟩

theorem tE_Attr {value : Expr} {name : Str} {pos : Pos} {Q : D → Hp → Prop} (h : tE X A env value σ H (fun d H₁ => t1 X A (fun v => getAttr v name true) d H₁ Q))
    (he : eval (.Attribute value name pos) env = (do
      let o ← eval value env
      standAt pos.atName
      let r ← holding [o] (getAttr o name true)
      letTemporaryGo value o r
      pure r) := by with_unfolding_all rfl) : tE X A env (.Attribute value name pos) σ H Q := fun s Z i => by
  refine Attribute_any_ (wpAny_mono (h s Z i) (fun v s₁ p => ?_) fun _ _ f => f) he
  obtain ⟨Z₁, H₁, d, e₁, o₁, r₁, q₁⟩ := p
  exact wpAny_mono (q₁ s₁ Z₁ v o₁ r₁) (fun v s₂ p => p.trans e₁) fun _ _ f => f
theorem t1_own {C dx : Addr} {od : D} {name : Str} {names : List Str} {ds : List D} {d : D} {Q : D → Hp → Prop} (eo : od = .inst C dx) (hC : ClsOk X C) (hn : findIn X.K (.ref C) name = some none) (hd : H dx = some (.ns names ds))
    (hl : (names.zip ds).lookup name = some d) (hh : d.handed = true) (h : Q d H) : t1 X A (fun v => getAttr v name true) od H Q := fun s Z v o r => by
  subst eo
  obtain ⟨x, es, n, rfl, hx, hdx, na, rs⟩ := o.instAt r hd
  obtain ⟨v, hv, rv⟩ := (na.get rs).1 d hl
  exact get_value o.kin (instAt_of hx hdx) (plainGet_of hC.get).1 (findObj_own hC.dict hn rfl (by rw [lookIn_dict]; exact hv)) (rv.handed hh) (.tok _ o rv h)
theorem t1_ownZ {C : Addr} {od : D} {name : Str} {names : List Str} {ds : List D} {d : D} {Q : D → Hp → Prop} (eo : od = .obj C names ds) (hC : ClsOk X C) (hn : findIn X.K (.ref C) name = some none)
    (hl : (names.zip ds).lookup name = some d) (hh : d.handed = true) (h : Q d H) : t1 X A (fun v => getAttr v name true) od H Q := fun s Z v o r => by
  subst eo
  obtain ⟨x, dx, es, n, rfl, hx, hdx, na, rs⟩ := o.objAt r
  obtain ⟨v, hv, rv⟩ := (na.get rs).1 d hl
  exact get_value o.kin (instAt_of hx hdx) (plainGet_of hC.get).1 (findObj_own hC.dict hn rfl (by rw [lookIn_dict]; exact hv)) (rv.handed hh) (.tok _ o rv h)
/-- a method of the class -/
theorem tG_meth {C dx f : Addr} {od : D} {name : Str} {names : List Str} {ds : List D} {Q : Value → List D → Prop} (eo : od = .inst C dx) (hC : ClsOk X C) (hf : findIn X.K (.ref C) name = some (some (.ref f))) (ht : isFn X.K (.ref f) = true)
    (hd : H dx = some (.ns names ds)) (hl : (names.zip ds).lookup name = none) (h : Q (.ref f) [.inst C dx]) : tG X A name od H Q := fun s Z v pl o r => by
  subst eo
  obtain ⟨x, es, n, rfl, hx, hdx, na, rs⟩ := o.instAt r hd
  exact method_fn o.kin (instAt_of hx hdx) (plainGet_of hC.get).1 (plainGet_of hC.get).2 hf (beq_iff_eq.mp ht) (by show (lookIn name (dictOf es n)).map _ = _; rw [lookIn_dict, (na.get rs).2 hl]; rfl)
    ⟨s.toks, _, rfl, .cons r .nil, h⟩
/-- a function that an object holds -/
theorem tG_held {C dx : Addr} {od : D} {name : Str} {names : List Str} {ds : List D} {f : Value} {Q : Value → List D → Prop} (eo : od = .inst C dx) (hC : ClsOk X C) (hn : findIn X.K (.ref C) name = some none)
    (hd : H dx = some (.ns names ds)) (hl : (names.zip ds).lookup name = some (.raw f)) (hh : handedIn f = true) (h : Q f []) : tG X A name od H Q := fun s Z v pl o r => by
  subst eo
  obtain ⟨x, es, n, rfl, hx, hdx, na, rs⟩ := o.instAt r hd
  obtain ⟨v, hv, rv⟩ := (na.get rs).1 _ hl
  rw [rv.raw_eq] at hv
  exact method_usual o.kin (instAt_of hx hdx) (plainGet_of hC.get).1 (plainGet_of hC.get).2 hn rfl
    (get_value o.kin (instAt_of hx hdx) (plainGet_of hC.get).1 (findObj_own hC.dict hn rfl (by rw [lookIn_dict]; exact hv)) hh ⟨_, _, rfl, .nil, h⟩)

/-- what a store into an object's dict does -/
theorem store_own {x dx C : Addr} {es : List DictEntry} {n : Nat} {name : Str} {v : Value} {Q : Unit → Shared → Prop} (hC : ClsOk X C) (K : X.K.In s.heap) (hx : s.heap.get? x = some (instObj C dx)) (hdx : s.heap.get? dx = some (dictOf es n))
    (ht : takerIn X.K C name = some none) (hl : (getL name es).isSome = true) (hz : es.length ≤ 999)
    (h : ∀ h', Heap.SameBut dx s.heap h' → (∃ hsh t m, h'.get? dx = some (dictOf (putL name hsh (.str name t) v es) m)) → Q () { s with heap := h', toks := s.toks + 2 }) :
    wpAny X.M A (setAttr (.ref x) name v) Q No s := by
  refine set_plain K (instAt_of hx hdx) hC.set ?_
  refine osa_open (s := { s with toks := s.toks + 1 }) K (instAt_of hx hdx) hC.over ht fun b => ?_
  obtain ⟨cd, hc, hd'⟩ := any_some hC.dict
  have hup : (s.heap.update dx (Obj.putName name (PyData.keyHash X.w.params name) (.str name (s.toks + 1)) v)).get? dx = some (dictOf (putL name (PyData.keyHash X.w.params name) (.str name (s.toks + 1)) v es) (putN name es n)) := by
    rw [Heap.get?_update_self _ hdx (by rw [putName_dict]; rfl), putName_dict]
  refine wpAny_bind (wpAny_pure (wpAny_bind (wpAny_bind (wpAny_loadPart hx (wpAny_bind ((looks_clsIn K hc).here (s := { s with toks := s.toks + 1 }) ?_))))))
  rw [hd']
  refine wpAny_pure (a := some dx) (wpAny_bind (wpAny_pure (wpAny_bind ?_)))
  unfold nsSet
  refine wpAny_bind (wpAny_bind (wpAny_askSetting (wpAny_pure (wpAny_bind (wpAny_mkText (wpAny_bind (wpAny_loadPart hdx ?_)))))))
  dsimp only
  have c : (!es.toArray.any (·.key.isStr name) && es.toArray.any (·.refKey)) = false := by
    rw [← Array.any_toList, ← Array.any_toList]
    unfold getL at hl
    split at hl
    · rename_i en he
      rw [List.any_eq_true.mpr ⟨en, List.mem_of_find?_eq_some he, List.find?_some he⟩]; rfl
    · split at hl
      · cases hl
      · rename_i z; rw [Bool.not_eq_true] at z; rw [z, Bool.and_false]
  rw [aRefKeyMayBeTheName_at, c]
  refine wpAny_updatePart hdx ?_
  have hlen : (putL name (PyData.keyHash X.w.params name) (.str name (s.toks + 1)) v es).length ≤ 1000 := by
    have : ∀ (l : List DictEntry) (hsh : Int) (k : Value), (putL name hsh k v l).length ≤ l.length + 1 := by
      intro l hsh k
      induction l with
      | nil => simp [putL]
      | cons e l ih => unfold putL; split <;> simp; exact ih
    have := this es (PyData.keyHash X.w.params name) (.str name (s.toks + 1)); omega
  refine wpAny_bind (wpAny_lookBehind hup (by exact pastItsLine_dict (by rw [List.size_toArray, sizeLine_eq]; omega)) ?_)
  exact wpAny_pure (h _ (Heap.SameBut.update ..) ⟨_, _, _, hup⟩)
theorem tU_attr {C dx : Addr} {od d : D} {name : Str} {names : List Str} {ds : List D} {Q : Hp → Prop} (eo : od = .inst C dx) (hC : ClsOk X C) (ht : takerIn X.K C name = some none) (hd : H dx = some (.ns names ds)) (hz : names.length ≤ 999)
    (h : Q (hput H dx (.ns (setN name d names ds).1 (setN name d names ds).2))) : tU X A (setAttrOp name) [od, d] H Q := fun s Z vs o r => by
  subst eo
  cases r with | cons r rn => cases rn with | cons r1 rn => cases rn with | nil =>
  obtain ⟨x, es, n, rfl, hx, hdx, na, rs⟩ := o.instAt r hd
  refine store_own hC o.kin hx hdx ht ?_ (by rw [na.length]; exact hz) fun h' hs ⟨hsh, t, m, hm⟩ => ?_
  · cases q : (names.zip ds).lookup name with
    | some d' => obtain ⟨v, hv, _⟩ := (na.get rs).1 _ q; rw [hv]; rfl
    | none => rw [(na.get rs).2 q]; rfl
  · obtain ⟨i1, i2⟩ := na.put (x := name) (hsh := hsh) (t := t) r1 rs
    exact ⟨Z, _, Ev.setH hs hd hm, o.setH hs hd hm (.ns i1 i2), h⟩
/-- C(..) : a new object, and its __init__ -/
theorem tC_make {C fI : Addr} {ds : List D} {Q : D → Hp → Prop} (hm : makesIn X.K C = true) (hi : findIn X.K (.ref C) "__init__" = some (some (.ref fI))) (hf : isFn X.K (.ref fI) = true)
    (h : ∀ dx A', A'.handled = A.handled → A'.depth ≤ A.depth + 2 → A'.units ≤ A.units + 5 → H dx = none → kC X A' (.ref fI) (.inst C dx :: ds) (hput H dx (.ns [] [])) (fun d H₁ => d = .none ∧ Q (.inst C dx) H₁)) : tC X A (.ref C) ds H Q := fun s Z vs o r => by
  refine wpAny_call ?_
  obtain ⟨hp, g, d, t, os⟩ := s
  have hL : hp.get? hp.objs.size = none := get_size _
  have k1 := fun b ob (e : hp.get? b = some ob) => Heap.get?_push_of_some emptyDict e
  have o1 : Ok X ⟨hp.push emptyDict, g, d, t, os⟩ Z (hput H hp.objs.size (.ns [] [])) := Ok.newH (tk := t) o k1 hL o.big (Heap.get?_push_size _ rfl) (.ns (n := 0) .nil .nil)
  have e1 : Ev ⟨hp, g, d, t, os⟩ Z H nil ⟨hp.push emptyDict, g, d, t, os⟩ Z (hput H hp.objs.size (.ns [] [])) := Ev.newH (tk := t) k1 hL
  have hx : (hp.push emptyDict).objs.size = hp.objs.size + 1 := Heap.size_push ..
  have hxn : (hp.push emptyDict).get? (hp.objs.size + 1) = none := Heap.get?_none_of_le (by rw [hx]; exact Nat.le_refl _)
  have k2 := fun b ob (e : (hp.push emptyDict).get? b = some ob) => Heap.get?_push_of_some (instObj C hp.objs.size) e
  have hg : ((hp.push emptyDict).push (instObj C hp.objs.size)).get? (hp.objs.size + 1) = some (instObj C hp.objs.size) := by
    have := Heap.get?_push_size (hp.push emptyDict) (o := instObj C hp.objs.size) rfl
    rw [hx] at this; exact this
  have hbig : sysModules < hp.objs.size + 1 := Nat.lt_succ_of_lt o.big
  have o2 : Ok X ⟨(hp.push emptyDict).push (instObj C hp.objs.size), g, d, t, os⟩ (zput Z (hp.objs.size + 1) (instObj C hp.objs.size)) (hput H hp.objs.size (.ns [] [])) := Ok.newZ (tk := t) o1 k2 hxn hbig hg
  have e2 : Ev ⟨hp.push emptyDict, g, d, t, os⟩ Z (hput H hp.objs.size (.ns [] [])) nil ⟨(hp.push emptyDict).push (instObj C hp.objs.size), g, d, t, os⟩ (zput Z (hp.objs.size + 1) (instObj C hp.objs.size)) (hput H hp.objs.size (.ns [] [])) := Ev.newZ (tk := t) o1 k2 hxn
  have hz : Z (hp.objs.size + 1) = none := o1.none_z hxn
  refine make_core (makes_of o.kin hm) (looks_findIn o.kin hi) (fun self => bind_fn o.kin self (beq_iff_eq.mp hf)) (.inl rfl) ?_
  refine codeAny_mono (h hp.objs.size (A.under (.builtin "type.__call__" ⟨.ref C :: vs, []⟩)) rfl ?_ ?_ (o.none_h hL) _ _ (.ref (hp.objs.size + 1) :: vs) o2 (.cons (.inst zput_self) (r.mono (zput_le hz)))) fun r' s' p => ?_
  · show A.depth + (Code.builtin "type.__call__" ⟨.ref C :: vs, []⟩).weight ≤ _
    have e : (Code.builtin "type.__call__" ⟨.ref C :: vs, []⟩).weight = 1 := rfl
    omega
  · show A.units + (Code.builtin "type.__call__" ⟨.ref C :: vs, []⟩).cUnits ≤ _
    have e : (Code.builtin "type.__call__" ⟨.ref C :: vs, []⟩).cUnits = 1 := rfl
    omega
  · rcases r' with e | (v | _ | _ | _) <;> try exact p.elim
    obtain ⟨Z', H', dd, e3, o3, r3, rfl, q⟩ := p
    refine ⟨r3.toNone, Z', H', .inst C hp.objs.size, (e1.trans e2).trans e3, o3, .inst (e3.zle _ _ zput_self), q⟩
end
end Mine

end

noncomputable section
open PySem PySem.W PySem.Calls PyProof.Rows
set_option maxHeartbeats 1000000
namespace Mine

noncomputable def putK {κ : Type} [DecidableEq κ] (k : κ) (d : D) : List κ → List D → List κ × List D
  | n :: ns, e :: es => if n = k then (n :: ns, d :: es) else (n :: (putK k d ns es).1, e :: (putK k d ns es).2)
  | _, _ => ([k], [d])
noncomputable def getK {κ : Type} [DecidableEq κ] (k : κ) : List κ → List D → Option D
  | n :: ns, e :: es => if n = k then some e else getK k ns es
  | _, _ => none

section
variable {X : Cx} {A : Around} {s s' s'' s₀ : Shared} {Z Z' : ZMap} {H H' : Hp} {env : Env} {σ σ' : Sto}

theorem stored_cons {κ : Type} [DecidableEq κ] {x : κ × Value} {kvs : List (κ × Value)} {k : κ} {v : Value} (hn : ((x :: kvs).map (·.1)).Nodup) :
    stored (x :: kvs) k v = if x.1 = k then (x.1, v) :: kvs else x :: stored kvs k v := by
  have hn' : x.1 ∉ kvs.map (·.1) := (List.nodup_cons.mp hn).1
  unfold stored
  by_cases h : x.1 = k
  · subst h
    simp only [List.any_cons, decide_true, Bool.true_or, if_true, List.map_cons]
    congr 1
    conv => rhs; rw [← List.map_id kvs]
    refine List.map_congr_left fun y hy => ?_
    rw [if_neg]
    · rfl
    · intro e; exact hn' (List.mem_map.mpr ⟨y, hy, e⟩)
  · simp only [List.any_cons, h, decide_false, Bool.false_or, if_false, List.map_cons]
    split <;> rfl
theorem stored_putK {κ : Type} [DecidableEq κ] {k : κ} {v : Value} {d : D} (rv : Rep X Z v d) : ∀ {kvs : List (κ × Value)} {ds : List D}, (kvs.map (·.1)).Nodup → Reps X Z (kvs.map (·.2)) ds →
    (stored kvs k v).map (·.1) = (putK k d (kvs.map (·.1)) ds).1 ∧ Reps X Z ((stored kvs k v).map (·.2)) (putK k d (kvs.map (·.1)) ds).2
  | [], _, _, .nil => ⟨rfl, .cons rv .nil⟩
  | x :: kvs, _, hn, .cons a r => by
    obtain ⟨i1, i2⟩ := stored_putK rv (List.nodup_cons.mp hn).2 r
    rw [stored_cons hn]
    rw [List.map_cons]
    unfold putK
    by_cases h : x.1 = k
    · rw [if_pos h, if_pos h]
      exact ⟨rfl, .cons rv r⟩
    · rw [if_neg h, if_neg h]
      exact ⟨by rw [List.map_cons, i1], .cons a i2⟩
theorem valueAt_getK {κ : Type} [DecidableEq κ] {k : κ} : ∀ {kvs : List (κ × Value)} {ds : List D}, Reps X Z (kvs.map (·.2)) ds →
    (∀ d, getK k (kvs.map (·.1)) ds = some d → ∃ v, valueAt kvs k = some v ∧ Rep X Z v d) ∧ (getK k (kvs.map (·.1)) ds = none → valueAt kvs k = none)
  | [], _, .nil => ⟨fun _ e => by simp [getK] at e, fun _ => rfl⟩
  | x :: kvs, _, .cons a r => by
    obtain ⟨i1, i2⟩ := valueAt_getK (k := k) r
    unfold valueAt at i1 i2 ⊢
    rw [List.map_cons, List.find?_cons]
    unfold getK
    by_cases h : x.1 = k
    · simp only [h, decide_true, if_true]
      exact ⟨fun d e => ⟨_, rfl, by cases e; exact a⟩, fun e => by cases e⟩
    · simp only [h, decide_false, if_false]
      exact ⟨i1, i2⟩

/-- where a dict lies -/
inductive IdAt (X : Cx) (h : Heap) (Z : ZMap) (v : Value) (ks : List Int) (ds : List D) : Prop
  | mk (l : Addr) (kvs : List (Int × Value)) (e : v = .ref l) (hd : h.DictOf (intKind X.prog X.w) l kvs) (hk : kvs.map (·.1) = ks) (rs : Reps X Z (kvs.map (·.2)) ds) (hm : (l == sysModules) = false)
inductive TdAt (X : Cx) (h : Heap) (Z : ZMap) (v : Value) (ks : List (List Int)) (ds : List D) : Prop
  | mk (l : Addr) (xs : List (List Int × Addr × Value)) (e : v = .ref l) (hd : h.DictOfH (tupleKind (intKind X.prog X.w)) l xs) (hk : xs.map (·.1) = ks) (rs : Reps X Z (xs.map (·.2.2)) ds) (ht : ∀ x ∈ xs, TupZ X Z x.1 x.2.1) (hm : (l == sysModules) = false)
theorem Ok.idictAt {v : Value} {d : D} {ks : List Int} {ds : List D} (o : Ok X s Z H) (r : Rep X Z v d) (a : At H d (.idict ks ds)) : IdAt X s.heap Z v ks ds := by
  cases a with
  | z =>
    cases r with
    | cont hz r => cases r with | idict hc hd hk hp hn e rs => exact ⟨_, _, rfl, ⟨_, _, _, o.z _ _ hz, hc, hd, hk, hp, hn⟩, e, rs, by simpa using Nat.ne_of_gt (o.low _ (.inl (by rw [hz]; simp)))⟩
  | h ha =>
    rw [r.raw_eq]
    obtain ⟨ob, ho, r⟩ := o.h _ _ ha
    cases r with | idict hc hd hk hp hn e rs => exact ⟨_, _, rfl, ⟨_, _, _, ho, hc, hd, hk, hp, hn⟩, e, rs, by simpa using Nat.ne_of_gt (o.low _ (.inr (by rw [ha]; simp)))⟩
theorem TupZ.key {h : Heap} (hz : ∀ a o, Z a = some o → h.get? a = some o) {ks : List Int} {a : Addr} (t : TupZ X Z ks a) : IsTupleKey (intKind X.prog X.w) h ks a := by
  obtain ⟨o, items, n, e, hc, hd, hi⟩ := t
  exact ⟨o, items, n, hz _ _ e, hc, hd, hi⟩
theorem Ok.tdictAt {v : Value} {d : D} {ks : List (List Int)} {ds : List D} (o : Ok X s Z H) (r : Rep X Z v d) (a : At H d (.tdict ks ds)) : TdAt X s.heap Z v ks ds := by
  cases a with
  | z =>
    cases r with
    | cont hz r => cases r with | tdict hc hd he ht hn e rs => exact ⟨_, _, rfl, ⟨_, _, _, o.z _ _ hz, hc, hd, he, fun x hx => (ht x hx).key o.z, hn⟩, e, rs, ht, by simpa using Nat.ne_of_gt (o.low _ (.inl (by rw [hz]; simp)))⟩
  | h ha =>
    rw [r.raw_eq]
    obtain ⟨ob, ho, r⟩ := o.h _ _ ha
    cases r with | tdict hc hd he ht hn e rs => exact ⟨_, _, rfl, ⟨_, _, _, ho, hc, hd, he, fun x hx => (ht x hx).key o.z, hn⟩, e, rs, ht, by simpa using Nat.ne_of_gt (o.low _ (.inr (by rw [ha]; simp)))⟩

theorem itemsAre_of : ∀ {vs : List Value} {ks : List Int}, Reps X Z vs (ks.map .int) → PySem.ItemsAre (intKind X.prog X.w) ks vs
  | _, [], .nil => .nil
  | _, k :: ks, .cons a r => .cons (by obtain ⟨t, rfl⟩ := a.toInt; exact intKind_is _ _ _ _) (itemsAre_of r)
theorem Rep.tupZ {v : Value} {ks : List Int} (r : Rep X Z v (.tup (ks.map .int))) : ∃ a, v = .ref a ∧ TupZ X Z ks a := by
  cases r with
  | cont hz r => cases r with | tup hc hd rs => exact ⟨_, rfl, ⟨_, _, _, hz, hc, hd, itemsAre_of rs⟩⟩
theorem atKey_getK {κ : Type} [DecidableEq κ] {k : κ} : ∀ {xs : List (κ × Addr × Value)} {ds : List D}, Reps X Z (xs.map (·.2.2)) ds →
    (∀ d, getK k (xs.map (·.1)) ds = some d → ∃ p, atKey xs k = some p ∧ Rep X Z p.2 d) ∧ (getK k (xs.map (·.1)) ds = none → atKey xs k = none)
  | [], _, .nil => ⟨fun _ e => by simp [getK] at e, fun _ => rfl⟩
  | x :: xs, _, .cons a r => by
    obtain ⟨i1, i2⟩ := atKey_getK (k := k) r
    unfold atKey at i1 i2 ⊢
    rw [List.map_cons, List.find?_cons]
    unfold getK
    by_cases h : x.1 = k
    · simp only [h, decide_true, if_true]
      exact ⟨fun d e => ⟨_, rfl, by cases e; exact a⟩, fun e => by cases e⟩
    · simp only [h, decide_false, if_false]
      exact ⟨i1, i2⟩
theorem storedH_cons {κ : Type} [DecidableEq κ] {x : κ × Addr × Value} {xs : List (κ × Addr × Value)} {k : κ} {a : Addr} {v : Value} (hn : ((x :: xs).map (·.1)).Nodup) :
    storedH (x :: xs) k a v = if x.1 = k then (x.1, x.2.1, v) :: xs else x :: storedH xs k a v := by
  have hn' : x.1 ∉ xs.map (·.1) := (List.nodup_cons.mp hn).1
  unfold storedH atKey
  by_cases h : x.1 = k
  · subst h
    simp only [List.find?_cons, decide_true, Option.map_some, Option.isSome_some, if_true, List.map_cons, putAt]
    congr 1
    conv => rhs; rw [← List.map_id xs]
    refine List.map_congr_left fun y hy => ?_
    unfold putAt
    rw [if_neg]
    · rfl
    · intro e; exact hn' (List.mem_map.mpr ⟨y, hy, e⟩)
  · simp only [List.find?_cons, h, decide_false, if_false, List.map_cons, putAt]
    split <;> rfl
theorem storedH_putK {κ : Type} [DecidableEq κ] {k : κ} {a : Addr} {v : Value} {d : D} (rv : Rep X Z v d) : ∀ {xs : List (κ × Addr × Value)} {ds : List D}, (xs.map (·.1)).Nodup → Reps X Z (xs.map (·.2.2)) ds →
    (storedH xs k a v).map (·.1) = (putK k d (xs.map (·.1)) ds).1 ∧ Reps X Z ((storedH xs k a v).map (·.2.2)) (putK k d (xs.map (·.1)) ds).2 ∧ ∀ x ∈ storedH xs k a v, (x.1 = k ∧ x.2.1 = a) ∨ ∃ y ∈ xs, y.1 = x.1 ∧ y.2.1 = x.2.1
  | [], _, _, .nil => ⟨rfl, .cons rv .nil, fun x hx => by
    have : x = (k, a, v) := by simpa [storedH, atKey] using hx
    subst this; exact .inl ⟨rfl, rfl⟩⟩
  | x :: xs, _, hn, .cons ra r => by
    obtain ⟨i1, i2, i3⟩ := storedH_putK (a := a) rv (List.nodup_cons.mp hn).2 r
    rw [storedH_cons hn, List.map_cons]
    unfold putK
    by_cases h : x.1 = k
    · rw [if_pos h, if_pos h]
      refine ⟨rfl, .cons rv r, fun y hy => ?_⟩
      rcases List.mem_cons.mp hy with rfl | hy
      · exact .inr ⟨x, .head _, rfl, rfl⟩
      · exact .inr ⟨y, .tail _ hy, rfl, rfl⟩
    · rw [if_neg h, if_neg h]
      refine ⟨by rw [List.map_cons, i1], .cons ra i2, fun y hy => ?_⟩
      rcases List.mem_cons.mp hy with rfl | hy
      · exact .inr ⟨_, .head _, rfl, rfl⟩
      · rcases i3 y hy with q | ⟨z, hz, q⟩
        · exact .inl q
        · exact .inr ⟨z, .tail _ hz, q⟩

/-! dicts by ints -/
theorem t2_itemI {oe ie : Expr} {d kd e : D} {k : Int} {ks : List Int} {ds : List D} {Q : D → Hp → Prop} (ha : At H d (.idict ks ds)) (ek : kd = .int k) (hg : getK k ks ds = some e) (h : Q e H)
    (hs : ∀ a u, subscripted ie false (.ref a) (.int k u) = operate [.ref a, .int k u] (getItem (.ref a) (.int k u)) := by intro _ _; with_unfolding_all rfl) : t2 X A (subscriptTail oe ie) d kd H Q := fun s Z v u o r r' => by
  subst ek
  obtain ⟨l, kvs, rfl, hm, rfl, rs, hl⟩ := o.idictAt r ha
  obtain ⟨t, rfl⟩ := r'.toInt
  obtain ⟨v, hv, rv⟩ := (valueAt_getK rs).1 _ hg
  exact tail_any hm.typeIs slot_dict_getitem.lookup (wpAny_getItem_of (knd := intKind X.prog X.w) (intKind_is _ _ _ _) hm.mapOf hv (.tok _ o rv h)) (hs _ _)
theorem t2_notInI {d kd : D} {k : Int} {ks : List Int} {ds : List D} {Q : D → Hp → Prop} (ha : At H d (.idict ks ds)) (ek : kd = .int k) (h : Q (.bool (!(getK k ks ds).isSome)) H) : t2 X A (compareOp .NotIn) kd d H Q := fun s Z v u o r r' => by
  subst ek
  obtain ⟨l, kvs, rfl, hm, rfl, rs, hl⟩ := o.idictAt r' ha
  obtain ⟨t, rfl⟩ := r.toInt
  refine wpAny_notIn_of (knd := intKind X.prog X.w) (intKind_is _ _ _ _) hl hm.mapOf (.tok _ o (.bool _) ?_)
  cases q : getK k (kvs.map (·.1)) ds with
  | some e => obtain ⟨v, hv, _⟩ := (valueAt_getK rs).1 _ q; rw [hv]; rw [q] at h; exact h
  | none => rw [(valueAt_getK rs).2 q]; rw [q] at h; exact h
theorem tC_getI {d kd e : D} {k : Int} {ks : List Int} {ds : List D} {Q : D → Hp → Prop} (ha : At H d (.idict ks ds)) (ek : kd = .int k) (h : Q ((getK k ks ds).getD e) H) : tC X A (.builtin "dict.get") [d, kd, e] H Q := fun s Z vs o r => by
  subst ek
  cases r with | cons r rn => cases rn with | cons r1 rn => cases rn with | cons r2 rn => cases rn with | nil =>
  obtain ⟨l, kvs, rfl, hm, rfl, rs, hl⟩ := o.idictAt r ha
  obtain ⟨t, rfl⟩ := r1.toInt
  refine call_meetsIn F.slot_dict_get hm.typeIs F.entry_dict_get (F.args_dict_get_3 _ _ _) (meets_dict_get_default (intKind X.prog X.w) l (intKind_is _ _ _ _) hl _) ⟨_, hm.mapOf, ?_⟩
  refine PE.tok _ o ?_ h
  cases q : getK k (kvs.map (·.1)) ds with
  | some e => obtain ⟨v, hv, rv⟩ := (valueAt_getK rs).1 _ q; rw [hv]; exact rv
  | none => rw [(valueAt_getK rs).2 q]; exact r2
theorem tU_setI {a : Addr} {kd d : D} {k : Int} {ks : List Int} {ds : List D} {Q : Hp → Prop} (ha : H a = some (.idict ks ds)) (ek : kd = .int k) (hz : ks.length ≤ sizeLine) (h : Q (hput H a (.idict (putK k d ks ds).1 (putK k d ks ds).2))) :
    tU X A setItemOp [.raw (.ref a), kd, d] H Q := fun s Z vs o r => by
  subst ek
  cases r with | cons r rn => cases rn with | cons r1 rn => cases rn with | cons r2 rn => cases rn with | nil =>
  obtain ⟨l, kvs, e, hm, rfl, rs, hl⟩ := o.idictAt r (.h ha)
  have e2 := r.raw_eq
  rw [e] at e2; cases e2; subst e
  obtain ⟨t, rfl⟩ := r1.toInt
  have hn : (kvs.map (·.1)).Nodup := hm.choose_spec.choose_spec.choose_spec.2.2.2.2.2
  obtain ⟨i1, i2⟩ := stored_putK (k := k) r2 hn rs
  refine wpAny_setItem_pairs (knd := intKind X.prog X.w) (intKind_is _ _ _ _) hm (fun h' ⟨ob, es, ep, ho, hc, hd, hk, hp, hn'⟩ hs => ?_) (by simpa using hz)
  exact ⟨Z, _, Ev.setH hs ha ho, o.setH hs ha ho (.idict hc hd hk hp hn' i1 i2), h⟩

/-! dicts by tuples of ints -/
theorem t2_itemK {oe ie : Expr} {d kd e : D} {k : List Int} {ks : List (List Int)} {ds : List D} {Q : D → Hp → Prop} (hu : A.units + 1 < cLine) (ha : At H d (.tdict ks ds)) (ek : kd = .tup (k.map .int)) (hg : getK k ks ds = some e) (h : Q e H)
    (hs : ∀ a u, subscripted ie false (.ref a) (.ref u) = operate [.ref a, .ref u] (getItem (.ref a) (.ref u)) := by intro _ _; with_unfolding_all rfl) : t2 X A (subscriptTail oe ie) d kd H Q := fun s Z v u o r r' => by
  subst ek
  obtain ⟨l, xs, rfl, hm, rfl, rs, ht, hl⟩ := o.tdictAt r ha
  obtain ⟨a, rfl, hk⟩ := r'.tupZ
  obtain ⟨p, hp, rv⟩ := (atKey_getK rs).1 _ hg
  exact tail_any hm.typeIs slot_dict_getitem.lookup (wpAny_getItem_heap (knd := tupleKind (intKind X.prog X.w)) (tupleKind_room_in1 hu) (hk.key o.z) hm hp (.tok _ o rv h)) (hs _ _)
theorem tC_getK {d kd e : D} {k : List Int} {ks : List (List Int)} {ds : List D} {Q : D → Hp → Prop} (hu : A.units + 1 < cLine) (ha : At H d (.tdict ks ds)) (ek : kd = .tup (k.map .int)) (h : Q ((getK k ks ds).getD e) H) : tC X A (.builtin "dict.get") [d, kd, e] H Q := fun s Z vs o r => by
  subst ek
  cases r with | cons r rn => cases rn with | cons r1 rn => cases rn with | cons r2 rn => cases rn with | nil =>
  obtain ⟨l, xs, rfl, hm, rfl, rs, ht, hl⟩ := o.tdictAt r ha
  obtain ⟨a, rfl, hk⟩ := r1.tupZ
  refine call_meetsIn F.slot_dict_get hm.typeIs F.entry_dict_get (F.args_dict_get_3 _ _ _) (meetsH_dict_get_default (tupleKind (intKind X.prog X.w)) l a hl _) ⟨tupleKind_room_in1 hu, _, _, hk.key o.z, hm, ?_⟩
  refine PE.tok _ o ?_ h
  cases q : getK k (xs.map (·.1)) ds with
  | some e => obtain ⟨v, hv, rv⟩ := (atKey_getK rs).1 _ q; rw [hv]; exact rv
  | none => rw [(atKey_getK rs).2 q]; exact r2
theorem tU_setK {a : Addr} {kd d : D} {k : List Int} {ks : List (List Int)} {ds : List D} {Q : Hp → Prop} (hu : A.units + 1 < cLine) (ha : H a = some (.tdict ks ds)) (ek : kd = .tup (k.map .int)) (hz : ks.length ≤ sizeLine)
    (h : Q (hput H a (.tdict (putK k d ks ds).1 (putK k d ks ds).2))) : tU X A setItemOp [.raw (.ref a), kd, d] H Q := fun s Z vs o r => by
  subst ek
  cases r with | cons r rn => cases rn with | cons r1 rn => cases rn with | cons r2 rn => cases rn with | nil =>
  obtain ⟨l, xs, e, hm, rfl, rs, ht, hl⟩ := o.tdictAt r (.h ha)
  have e2 := r.raw_eq
  rw [e] at e2; cases e2; subst e
  obtain ⟨b, rfl, hk⟩ := r1.tupZ
  have hn : (xs.map (·.1)).Nodup := hm.choose_spec.choose_spec.choose_spec.2.2.2.2.2
  obtain ⟨i1, i2, i3⟩ := storedH_putK (k := k) (a := b) r2 hn rs
  refine wpAny_setItem_heap (knd := tupleKind (intKind X.prog X.w)) (tupleKind_room_in1 hu) (hk.key o.z) hm (fun h' ⟨ob, es, ep, ho, hc, hd, he, _, hn'⟩ hs => ?_) (by simpa using hz)
  exact ⟨Z, _, Ev.setH hs ha ho, o.setH hs ha ho (.tdict hc hd he (fun x hx => by
    rcases i3 x hx with ⟨q1, q2⟩ | ⟨y, hy, q1, q2⟩
    · rw [q1, q2]; exact hk
    · rw [← q1, ← q2]; exact ht y hy) hn' i1 i2), h⟩

/-- the method get -/
theorem tG_get {d : D} {Q : Value → List D → Prop} (ha : (∃ ks ds, At H d (.idict ks ds)) ∨ (∃ ks ds, At H d (.tdict ks ds))) (h : Q (.builtin "dict.get") [d]) : tG X A "get" d H Q := fun s Z v pl o r => by
  have key : ∃ l ob, v = .ref l ∧ s.heap.get? l = some ob ∧ ob.ExactDict := by
    rcases ha with ⟨ks, ds, ha⟩ | ⟨ks, ds, ha⟩
    · obtain ⟨l, kvs, e, ⟨ob, es, ep, ho, hc, _⟩, _⟩ := o.idictAt r ha; exact ⟨l, ob, e, ho, hc⟩
    · obtain ⟨l, kvs, e, ⟨ob, es, ep, ho, hc, _⟩, _⟩ := o.tdictAt r ha; exact ⟨l, ob, e, ho, hc⟩
  obtain ⟨l, ob, rfl, ho, hc⟩ := key
  exact getMethod_builtin ⟨ob, ho, hc.1⟩ PySem.F.plainAttrs_dict PySem.F.slot_dict_get PySem.F.type_dict_get (fun a e => by cases e; exact ⟨ob, ho, hc.2.1⟩) ⟨s.toks, _, rfl, .cons r .nil, h⟩

/-! displays -/
theorem tE_Dict0I {pos : Pos} {Q : D → Hp → Prop} (h : ∀ a, H a = none → Q (.raw (.ref a)) (hput H a (.idict [] []))) : tE X A env (.Dict [] [] pos) σ H Q := fun s Z i =>
  wpAny_Dict_empty (PE.newH (tk := s.toks) i.ok (fun b o e => Heap.get?_push_of_some _ e) (get_size _) i.ok.big (Heap.get?_push_size _ rfl) (.idict (kvs := []) (ep := 0) (es := #[]) ⟨rfl, rfl, rfl⟩ rfl (fun e he => by simp at he) .nil List.nodup_nil rfl .nil) (h _))
theorem tE_Dict0K {pos : Pos} {Q : D → Hp → Prop} (h : ∀ a, H a = none → Q (.raw (.ref a)) (hput H a (.tdict [] []))) : tE X A env (.Dict [] [] pos) σ H Q := fun s Z i =>
  wpAny_Dict_empty (PE.newH (tk := s.toks) i.ok (fun b o e => Heap.get?_push_of_some _ e) (get_size _) i.ok.big (Heap.get?_push_size _ rfl) (.tdict (xs := []) (ep := 0) (es := #[]) ⟨rfl, rfl, rfl⟩ rfl rfl (fun e he => by simp at he) List.nodup_nil rfl .nil) (h _))
/-- {k: v} -/
theorem tE_Dict1I {ke ve : Expr} {pos : Pos} {Q : D → Hp → Prop}
    (h : tE X A env ke σ H (fun kd H₁ => tE X A env ve σ H₁ (fun d H₂ => ∃ k, kd = .int k ∧ ∀ a, H₂ a = none → Q (.raw (.ref a)) (hput H₂ a (.idict [k] [d]))))) : tE X A env (.Dict [some ke] [ve] pos) σ H Q := fun s Z i => by
  have hn := get_size s.heap
  have k0 := fun b o (e : s.heap.get? b = some o) => Heap.get?_push_of_some ({ cls := .type "dict", data := .dict #[] } : Obj) e
  have e0 : Ev s Z H nil { s with heap := s.heap.push { cls := .type "dict", data := .dict #[] }, toks := s.toks } Z H := .keeps k0
  have i0 := i.step e0 (i.ok.keeps (tk := s.toks) k0)
  have g0 : (s.heap.push { cls := .type "dict", data := .dict #[] }).get? s.heap.objs.size = some { cls := .type "dict", data := .dict #[] } := Heap.get?_push_size _ rfl
  refine wpAny_Dict_any rfl rfl (by simp) (by simp) (pairTrees_cons_walk (wpAny_mono (h _ Z i0) (fun kv s₁ p => ?_) fun _ _ f => f))
  obtain ⟨Z₁, H₁, kd, e₁, o₁, r₁, q₁⟩ := p
  refine wpAny_mono (q₁ s₁ Z₁ (i0.step e₁ o₁)) (fun vv s₂ p => ?_) fun _ _ f => f
  obtain ⟨Z₂, H₂, d, e₂, o₂, r₂, k, rfl, q₂⟩ := p
  obtain ⟨t, rfl⟩ := r₁.toInt
  refine pairTrees_nil_walk ?_
  have hH := i.ok.none_h hn
  have e12 := e₁.trans e₂
  have g2 : s₂.heap.get? s.heap.objs.size = some { cls := .type "dict", data := .dict #[] } := e12.keep _ _ g0 hH id
  have z2 : Z₂ s.heap.objs.size = none := e12.znew _ (i.ok.none_z hn) hH (by rw [show ({ s with heap := s.heap.push { cls := .type "dict", data := .dict #[] }, toks := s.toks } : Shared).heap.get? s.heap.objs.size = _ from g0]; simp)
  have h2 : H₂ s.heap.objs.size = none := e12.hnew _ hH (by rw [show ({ s with heap := s.heap.push { cls := .type "dict", data := .dict #[] }, toks := s.toks } : Shared).heap.get? s.heap.objs.size = _ from g0]; simp)
  have b2 := i.ok.none_b hn
  have D0 : s₂.heap.DictOf (intKind X.prog X.w) s.heap.objs.size [] := ⟨_, #[], 0, g2, ⟨rfl, rfl, rfl⟩, rfl, fun e he => by simp at he, .nil, List.nodup_nil⟩
  unfold storeAll
  rw [List.forIn_cons]
  refine wpAny_bind (wpAny_bind (wpAny_dictSet_pairs (knd := intKind X.prog X.w) (intKind_is _ _ k t) D0 (fun h' ⟨ob, es, ep, ho, hc, hd, hk, hp, hn'⟩ hs => ?_) (by simp)))
  refine wpAny_pure ?_
  show wpAny _ _ (forIn ([] : List (Value × Value)) PUnit.unit _) _ _ _
  rw [List.forIn_nil]
  refine wpAny_pure ?_
  have kk : ∀ b o, b ∉ [s.heap.objs.size] → s₂.heap.get? b = some o → h'.get? b = some o := fun b o hb e => (hs.2 b (by simpa using hb)).trans e
  have o3 : Ok X { s₂ with heap := h', toks := s₂.toks + 1 } Z₂ H₂ := o₂.wr (wr := [s.heap.objs.size]) (fun b hb => by rw [List.mem_singleton.mp hb]; exact ⟨z2, h2, b2⟩) kk
  have e3 : Ev s Z H nil { s₂ with heap := h', toks := s₂.toks + 1 } Z₂ H₂ := (e0.trans e12).wr (wr := [s.heap.objs.size]) (fun b hb => by rw [List.mem_singleton.mp hb]; exact hn) kk
  exact ⟨Z₂, _, .raw _, e3.adopt hn, o3.adopt ho (.idict (ks := [k]) hc hd hk hp hn' rfl (.cons r₂ .nil)) z2 b2 i.ok.big, .raw _, q₂ _ h2⟩
end
end Mine

end

noncomputable section
open PySem PySem.W PySem.Calls PyProof.Rows
set_option maxHeartbeats 1000000
namespace Mine

noncomputable def canon (l : List Nat) : List Nat := [0, 1, 2].filter (l.contains ·)
noncomputable def tabOf (mask finger moves : Nat) (led : Bool) (ks : List Nat) : SetTable := ⟨mask, ks.toArray, #[], finger, led, moves, true⟩
noncomputable def putTok (tok : Nat → Tok) (n : Nat) (tk : Tok) : Nat → Tok := fun m => if m = n then tk else tok m

theorem layNew_small {ks : List Nat} {n mask finger moves : Nat} {led : Bool} {tok : Nat → Tok} {tk : Tok} (hk : ks ∈ subs3) (hn : n ∈ [0, 1, 2]) (hm : mask = 7 ∨ mask = 15) (h : n ∉ ks) :
    layNew (tabOf mask finger moves led ks) (esOf tok ks) n (.int n tk) = (esOf (putTok tok n tk) (canon (n :: ks)), tabOf mask finger moves led (canon (n :: ks)), false, false) := by
  simp only [subs3, List.mem_cons, List.not_mem_nil, or_false] at hk hn
  rcases hm with rfl | rfl <;> rcases hn with rfl | rfl | rfl <;> rcases hk with rfl | rfl | rfl | rfl | rfl | rfl | rfl | rfl <;> first
    | exact absurd (by decide) h
    | kernel_rfl
theorem canon_mem {ks : List Nat} {n : Nat} (hk : ks ∈ subs3) (h : n ∈ ks) : canon (n :: ks) = ks := by
  simp only [subs3, List.mem_cons, List.not_mem_nil, or_false] at hk
  rcases hk with rfl | rfl | rfl | rfl | rfl | rfl | rfl | rfl <;> simp at h <;> (try rcases h with rfl | rfl | rfl) <;> (try rcases h with rfl | rfl) <;> (try subst h) <;> rfl
theorem canon_sub (l : List Nat) : canon l ∈ subs3 := by
  unfold canon
  simp only [List.filter_cons, List.filter_nil]
  cases l.contains 0 <;> cases l.contains 1 <;> cases l.contains 2 <;> decide
theorem mem_canon {l : List Nat} {n : Nat} : n ∈ canon l ↔ n ∈ l ∧ n < 3 := by
  unfold canon
  rw [List.mem_filter, List.contains_iff_mem]
  constructor
  · rintro ⟨a, b⟩
    refine ⟨b, ?_⟩
    simp at a; omega
  · rintro ⟨a, b⟩
    refine ⟨?_, a⟩
    simp; omega
theorem esOf_size (tok : Nat → Tok) (ks : List Nat) : (esOf tok ks).size = ks.length := by simp [esOf]
theorem subs3_len {ks : List Nat} (hk : ks ∈ subs3) : ks.length ≤ 3 := by
  simp only [subs3, List.mem_cons, List.not_mem_nil, or_false] at hk
  rcases hk with rfl | rfl | rfl | rfl | rfl | rfl | rfl | rfl <;> decide
theorem subs3_lt {ks : List Nat} (hk : ks ∈ subs3) {n : Nat} (h : n ∈ ks) : n < 3 := by
  simp only [subs3, List.mem_cons, List.not_mem_nil, or_false] at hk
  rcases hk with rfl | rfl | rfl | rfl | rfl | rfl | rfl | rfl <;> simp at h <;> omega
theorem tabOf_fits {mask finger moves : Nat} {led : Bool} {ks : List Nat} (hk : ks ∈ subs3) (hm : mask = 7 ∨ mask = 15) {tok : Nat → Tok} : (tabOf mask finger moves led ks).fits (esOf tok ks).size = true := by
  have := subs3_len hk
  rw [esOf_size]
  simp [SetTable.fits, tabOf, SetTable.fill]
  omega
theorem tabOf_notFull {mask finger moves : Nat} {led : Bool} {ks : List Nat} (hk : ks ∈ subs3) (hm : mask = 7 ∨ mask = 15) : (tabOf mask finger moves led ks).tooFull = false := by
  have := subs3_len hk
  simp [SetTable.tooFull, tabOf, SetTable.fill]
  omega
theorem hash_small {n : Nat} (hn : n < 3) : hashInt (n : Int) = n := by
  rcases n with _ | _ | _ | n
  · rfl
  · rfl
  · rfl
  · omega

inductive SSAt (X : Cx) (h : Heap) (a : Addr) (ks : List Nat) : Prop
  | mk (tok) (ep) (mask) (finger) (moves) (ho : h.get? a = some { cls := .type "frozenset", data := .set (esOf tok ks) ep (tabOf mask finger moves (!X.bt) ks) }) (hm : mask = 7 ∨ mask = 15) (hk : ks ∈ subs3)

section
variable {X : Cx} {A : Around} {s s' s'' s₀ : Shared} {Z Z' : ZMap} {H H' : Hp} {env : Env} {σ σ' : Sto}

theorem SSAt.of {o : Obj} {a : Addr} {ks : List Nat} (ho : s.heap.get? a = some o) (r : ORep X Z o (.sset ks)) : SSAt X s.heap a ks := by
  cases r with
  | sset e hs =>
    obtain ⟨⟨tok, rfl⟩, ⟨mask, finger, moves, rfl, hm⟩, hk⟩ := hs
    subst e
    exact ⟨tok, _, mask, finger, moves, ho, hm, hk⟩
theorem SSAt.orep {h : Heap} {a : Addr} {ks : List Nat} (x : SSAt X h a ks) : ∃ o, h.get? a = some o ∧ ORep X Z o (.sset ks) := by
  obtain ⟨tok, ep, mask, finger, moves, ho, hm, hk⟩ := x
  exact ⟨_, ho, .sset rfl ⟨⟨tok, rfl⟩, ⟨mask, finger, moves, rfl, hm⟩, hk⟩⟩
theorem SSAt.keeps {h h' : Heap} {a : Addr} {ks : List Nat} (x : SSAt X h a ks) (k : ∀ o, h.get? a = some o → h'.get? a = some o) : SSAt X h' a ks := by
  obtain ⟨tok, ep, mask, finger, moves, ho, hm, hk⟩ := x
  exact ⟨tok, ep, mask, finger, moves, k _ ho, hm, hk⟩

theorem els_small {tok : Nat → Tok} {ks : List Nat} (hk : ks ∈ subs3) : ElemsOf (intKind X.prog X.w) (esOf tok ks).toList := by
  intro e he
  simp only [esOf, List.mem_map] at he
  obtain ⟨n, hn, rfl⟩ := he
  exact ⟨⟨n, intKind_is _ _ _ _, (hash_small (subs3_lt hk hn)).symm⟩, rfl⟩
theorem find_small {tok : Nat → Tok} {ks : List Nat} {n : Nat} : ((esOf tok ks).toList.findIdx? fun e => (intKind X.prog X.w).is (n : Int) e.2) = ks.findIdx? (fun m => m == n) := by
  simp only [esOf]
  rw [List.findIdx?_map]
  congr 1
  funext m
  show ((m : Int) == (n : Int)) = (m == n)
  rw [Bool.eq_iff_iff]; simp only [beq_iff_eq]; exact Int.ofNat_inj

theorem wp_state {a : Addr} {ks : List Nat} {tok : Nat → Tok} {ep mask finger moves : Nat} {Q : (Array (Int × Value) × Nat × SetTable) → Shared → Prop} (ho : s.heap.get? a = some { cls := .type "frozenset", data := .set (esOf tok ks) ep (tabOf mask finger moves (!X.bt) ks) })
    (hm : mask = 7 ∨ mask = 15) (hk : ks ∈ subs3) (h : Q (esOf tok ks, ep, tabOf mask finger moves (!X.bt) ks) s) : wpAny X.M A (setState a) Q No s :=
  wpAny_setState_of ho rfl (tabOf_fits hk hm) h

theorem add_small {a : Addr} {ks : List Nat} {n : Nat} {tk : Tok} {Q : Bool → Shared → Prop} (hn : n < 3) (S : SSAt X s.heap a ks)
    (h : ∀ b h', SSAt X h' a (canon (n :: ks)) → Heap.SameBut a s.heap h' → Q b { s with heap := h' }) : wpAny X.M A (setAddHashed a (.int n tk) n) Q No s := by
  obtain ⟨tok, ep, mask, finger, moves, ho, hm, hk⟩ := S
  have hh : ((n : Nat) : Int) = (intKind X.prog X.w).hash n := (hash_small hn).symm
  unfold setAddHashed setAddHashedIn
  refine wpAny_holding (wpAny_bind (wp_state ho hm hk ?_))
  dsimp only
  rw [byScan_of rfl (by rw [esOf_size]; have := subs3_len hk; unfold scanBound; omega) (els_small (X := X) hk)]
  simp only [↓reduceIte]
  unfold setAddByScan
  refine wpAny_bind (wpAny_bind (wpAny_rule (wpAny_bind ?_)))
  have scan : ∀ {Q' : ScanMet → Shared → Prop}, Q' (match ks.findIdx? (fun m => m == n) with | some j => .found (0 + j) | none => .absent) s → wpAny X.M A (setScan a (.int n tk) n true (esOf tok ks)) Q' No s := fun hq => by
    conv => { arg 3; arg 3; rw [hh] }
    exact wpAny_setScan_of (knd := intKind X.prog X.w) (intKind_is _ _ _ _) ho rfl (tabOf_fits hk hm) (els_small hk) (by rw [find_small]; exact hq)
  refine scan ?_
  cases q : ks.findIdx? (fun m => m == n) with
  | some j =>
    have hmem : n ∈ ks := by
      obtain ⟨hj, hp, _⟩ := List.findIdx?_eq_some_iff_getElem.mp q
      rw [← eq_of_beq hp]; exact List.getElem_mem hj
    dsimp only
    refine wpAny_pure (wpAny_pure (h false s.heap ?_ (Heap.SameBut.refl ..)))
    rw [canon_mem hk hmem]
    exact ⟨tok, ep, mask, finger, moves, ho, hm, hk⟩
  | none =>
    have hmem : n ∉ ks := fun hc => by
      have := List.findIdx?_eq_none_iff.mp q n hc
      simp at this
    dsimp only
    rw [show layNew (tabOf mask finger moves (!X.bt) ks) (esOf tok ks) n (.int n tk) = _ from layNew_small hk (by simp; omega) hm hmem]
    dsimp only
    refine wpAny_bind (wpAny_pure ?_)
    rw [if_pos (show (tabOf mask finger moves (!X.bt) (canon (n :: ks))).plain = true from rfl)]
    refine wpAny_bind ?_
    rw [hashByValue_scannable 8 rfl]
    refine wpAny_pure ?_
    have hks := canon_sub (n :: ks)
    rw [if_pos (show plainKind (.int n tk) = true from rfl)]
    refine wpAny_bind (wpAny_storeSet_of ho rfl ?_ (by rw [esOf_size, sizeLine_eq]; have := subs3_len hks; omega))
    rw [tabOf_notFull hks hm]
    simp only [Bool.not_false, Bool.and_false, Bool.false_eq_true, if_false]
    refine wpAny_pure (wpAny_pure (h true _ ⟨putTok tok n tk, ep + 1, mask, finger, moves, ?_, hm, hks⟩ (Heap.SameBut.update ..)))
    rw [Heap.get?_update_self _ ho (by rw [putSet_of _ _ rfl]; rfl), putSet_of _ _ rfl]
end
end Mine

end

noncomputable section
open PySem PySem.W PySem.Calls PyProof.Rows
set_option maxHeartbeats 1000000
namespace Mine
namespace Fz
theorem slot_sub : Slot "frozenset" "__sub__" "frozenset.__sub__" :=
  .of (owner := "frozenset") (n := "__sub__") (by rw [typeLookup_type, builtinLookup_eq_fast]; kernel_rfl) (by decide +kernel) (by decide +kernel) (by decide +kernel)
    (by first | exact .inl (by decide +kernel) | exact .inr (by decide +kernel)) (by rw [isSubtype_type]; kernel_rfl)
theorem slot_or : Slot "frozenset" "__or__" "frozenset.__or__" :=
  .of (owner := "frozenset") (n := "__or__") (by rw [typeLookup_type, builtinLookup_eq_fast]; kernel_rfl) (by decide +kernel) (by decide +kernel) (by decide +kernel)
    (by first | exact .inl (by decide +kernel) | exact .inr (by decide +kernel)) (by rw [isSubtype_type]; kernel_rfl)
theorem slot_eq : Slot "frozenset" "__eq__" "frozenset.__eq__" :=
  .of (owner := "frozenset") (n := "__eq__") (by rw [typeLookup_type, builtinLookup_eq_fast]; kernel_rfl) (by decide +kernel) (by decide +kernel) (by decide +kernel)
    (by first | exact .inl (by decide +kernel) | exact .inr (by decide +kernel)) (by rw [isSubtype_type]; kernel_rfl)
theorem slot_ne : Slot "frozenset" "__ne__" "frozenset.__ne__" :=
  .of (owner := "frozenset") (n := "__ne__") (by rw [typeLookup_type, builtinLookup_eq_fast]; kernel_rfl) (by decide +kernel) (by decide +kernel) (by decide +kernel)
    (by first | exact .inl (by decide +kernel) | exact .inr (by decide +kernel)) (by rw [isSubtype_type]; kernel_rfl)
theorem slot_iter : Slot "frozenset" "__iter__" "frozenset.__iter__" :=
  .of (owner := "frozenset") (n := "__iter__") (by rw [typeLookup_type, builtinLookup_eq_fast]; kernel_rfl) (by decide +kernel) (by decide +kernel) (by decide +kernel)
    (by first | exact .inl (by decide +kernel) | exact .inr (by decide +kernel)) (by rw [isSubtype_type]; kernel_rfl)
theorem slot_init : Slot "frozenset" "__init__" "object.__init__" :=
  .of (owner := "object") (n := "__init__") (by rw [typeLookup_type, builtinLookup_eq_fast]; kernel_rfl) (by decide +kernel) (by decide +kernel) (by decide +kernel)
    (by first | exact .inl (by decide +kernel) | exact .inr (by decide +kernel)) (by rw [isSubtype_type]; kernel_rfl)
theorem slot_itnext : Slot "set_iterator" "__next__" "set_iterator.__next__" :=
  .of (owner := "set_iterator") (n := "__next__") (by rw [typeLookup_type, builtinLookup_eq_fast]; kernel_rfl) (by decide +kernel) (by decide +kernel) (by decide +kernel)
    (by first | exact .inl (by decide +kernel) | exact .inr (by decide +kernel)) (by rw [isSubtype_type]; kernel_rfl)
theorem slot_ititer : Slot "set_iterator" "__iter__" "set_iterator.__iter__" :=
  .of (owner := "set_iterator") (n := "__iter__") (by rw [typeLookup_type, builtinLookup_eq_fast]; kernel_rfl) (by decide +kernel) (by decide +kernel) (by decide +kernel)
    (by first | exact .inl (by decide +kernel) | exact .inr (by decide +kernel)) (by rw [isSubtype_type]; kernel_rfl)
theorem entry_sub : entryFor table "frozenset.__sub__" = some Builtin.«frozenset.__sub__» := entryFor_of_tree (by kernel_rfl)
theorem entry_or : entryFor table "frozenset.__or__" = some Builtin.«frozenset.__or__» := entryFor_of_tree (by kernel_rfl)
theorem entry_eq : entryFor table "frozenset.__eq__" = some Builtin.«frozenset.__eq__» := entryFor_of_tree (by kernel_rfl)
theorem entry_ne : entryFor table "frozenset.__ne__" = some Builtin.«frozenset.__ne__» := entryFor_of_tree (by kernel_rfl)
theorem entry_iter : entryFor table "frozenset.__iter__" = some Builtin.«frozenset.__iter__» := entryFor_of_tree (by kernel_rfl)
theorem entry_new : entryFor table "frozenset.__new__" = some Builtin.«frozenset.__new__» := entryFor_of_tree (by kernel_rfl)
theorem entry_itnext : entryFor table "set_iterator.__next__" = some Builtin.«set_iterator.__next__» := entryFor_of_tree (by kernel_rfl)
theorem entry_ititer : entryFor table "set_iterator.__iter__" = some Builtin.«dict_keyiterator.__iter__» :=
  entryFor_alias (id' := "dict_keyiterator.__iter__") (by kernel_rfl) (by first | rfl | decide +kernel | (unfold String.splitOn; simp +decide [String.splitOnAux])) (by decide +kernel) (by kernel_rfl)
theorem args_sub (a b : Value) : argsOk "frozenset.__sub__" ⟨[a, b], []⟩ := by
  unfold argsOk; rw [signature?_of (id := "frozenset.__sub__") (n := ['_', '_', 'b', 'u', 's', '_', '_']) (o := ['t', 'e', 's', 'n', 'e', 'z', 'o', 'r', 'f']) (by kernel_rfl) PySem.W.FB.owner_frozenset]; kernel_rfl
theorem args_or (a b : Value) : argsOk "frozenset.__or__" ⟨[a, b], []⟩ := by
  unfold argsOk; rw [signature?_of (id := "frozenset.__or__") (n := ['_', '_', 'r', 'o', '_', '_']) (o := ['t', 'e', 's', 'n', 'e', 'z', 'o', 'r', 'f']) (by kernel_rfl) PySem.W.FB.owner_frozenset]; kernel_rfl
theorem args_eq (a b : Value) : argsOk "frozenset.__eq__" ⟨[a, b], []⟩ := by
  unfold argsOk; rw [signature?_of (id := "frozenset.__eq__") (n := ['_', '_', 'q', 'e', '_', '_']) (o := ['t', 'e', 's', 'n', 'e', 'z', 'o', 'r', 'f']) (by kernel_rfl) PySem.W.FB.owner_frozenset]; kernel_rfl
theorem args_ne (a b : Value) : argsOk "frozenset.__ne__" ⟨[a, b], []⟩ := by
  unfold argsOk; rw [signature?_of (id := "frozenset.__ne__") (n := ['_', '_', 'e', 'n', '_', '_']) (o := ['t', 'e', 's', 'n', 'e', 'z', 'o', 'r', 'f']) (by kernel_rfl) PySem.W.FB.owner_frozenset]; kernel_rfl
theorem args_iter (a : Value) : argsOk "frozenset.__iter__" ⟨[a], []⟩ := by
  unfold argsOk; rw [signature?_of (id := "frozenset.__iter__") (n := ['_', '_', 'r', 'e', 't', 'i', '_', '_']) (o := ['t', 'e', 's', 'n', 'e', 'z', 'o', 'r', 'f']) (by kernel_rfl) PySem.W.FB.owner_frozenset]; kernel_rfl
theorem args_itnext (a : Value) : argsOk "set_iterator.__next__" ⟨[a], []⟩ := by
  unfold argsOk; kernel_rfl
theorem args_ititer (a : Value) : argsOk "set_iterator.__iter__" ⟨[a], []⟩ := by
  unfold argsOk; kernel_rfl
theorem fills_sub : fillsNumberSlot (.type "frozenset") "sub" = pure true := fillsNumberSlot_of (id := "frozenset.__sub__") (r := some (.builtin "frozenset.__rsub__")) (by rw [typeLookup_type, builtinLookup_eq_fast]; kernel_rfl) (by decide +kernel) (by rw [typeLookup_type, builtinLookup_eq_fast]; kernel_rfl)
theorem fills_or : fillsNumberSlot (.type "frozenset") "or" = pure true := fillsNumberSlot_of (id := "frozenset.__or__") (r := some (.builtin "frozenset.__ror__")) (by rw [typeLookup_type, builtinLookup_eq_fast]; kernel_rfl) (by decide +kernel) (by rw [typeLookup_type, builtinLookup_eq_fast]; kernel_rfl)
theorem sub_set : isSubtype (.type "frozenset") (.type "set") = pure false := by rw [isSubtype_type]; kernel_rfl
theorem sub_self : isSubtype (.type "frozenset") (.type "frozenset") = pure true := by rw [isSubtype_type]; kernel_rfl
theorem mro : mroOf (.type "frozenset") = pure [.type "frozenset", .type "object"] := by rw [mroOf_type]; kernel_rfl
theorem lookup_new : typeLookup (.type "frozenset") "__new__" = pure (some (.builtin "frozenset.__new__")) := by rw [typeLookup_type, builtinLookup_eq_fast]; kernel_rfl
theorem called : TypeCalled "frozenset" "frozenset.__new__" "object.__init__" :=
  ⟨by decide +kernel, by decide +kernel, ⟨_, _, mro⟩, madeBy_type mro lookup_new (by decide +kernel), by decide +kernel, by rw [isSubtype_type]; kernel_rfl, slot_init⟩
theorem typeCall_0 : checkTypeCall "frozenset" ⟨[], []⟩ = pure () := by kernel_rfl
theorem newCall_0 : checkBuiltinCall "frozenset.__new__" ⟨[.type "frozenset"], []⟩ = pure () := by kernel_rfl
theorem typeCall_1 (a : Value) : checkTypeCall "frozenset" ⟨[a], []⟩ = pure () := by kernel_rfl
theorem newCall_1 (a : Value) : checkBuiltinCall "frozenset.__new__" ⟨[.type "frozenset", a], []⟩ = pure () := by kernel_rfl
theorem args_init1 (a : Value) : argsOk "object.__init__" ⟨[a], []⟩ := by unfold argsOk; kernel_rfl
theorem madeHere : Bind.madeHere "frozenset.__new__" (.type "frozenset") = pure () := by
  unfold Bind.madeHere
  have e : Bind.staticBase (.type "frozenset") = pure (.type "frozenset") := by first | rfl | kernel_rfl
  rw [e]
  simp only [pure_bind, called.made]
  first | rfl | kernel_rfl | (simp; rfl)
end Fz
end Mine

end

noncomputable section
open PySem PySem.W PySem.Calls PyProof.Rows
set_option maxHeartbeats 1000000
namespace Mine

theorem erase_perm {α : Type} : ∀ (l : List α) (i : Nat) (x : α), l[i]? = some x → List.Perm (x :: l.eraseIdx i) l
  | [], _, _, h => by simp at h
  | y :: l, 0, x, h => by simp at h; subst h; exact .refl _
  | y :: l, i + 1, x, h => by
    have ih := erase_perm l i x (by simpa using h)
    rw [List.eraseIdx_cons_succ]
    exact (List.Perm.swap y x _).trans (ih.cons y)
theorem go_perm {α : Type} (next : Nat → Nat) : ∀ (fuel k : Nat) (left : List α) (out : Array α), left.length ≤ fuel → List.Perm (pickOrder.go next fuel k left out).toList (out.toList ++ left)
  | 0, k, left, out, h => by
    have : left = [] := List.length_eq_zero_iff.mp (Nat.le_zero.mp h)
    subst this
    unfold pickOrder.go
    simp
  | fuel + 1, k, left, out, h => by
    unfold pickOrder.go
    cases q : left[next k % left.length]? with
    | none =>
      dsimp only
      have : left = [] := by
        rcases left with _ | ⟨x, l⟩
        · rfl
        · exfalso
          rw [List.getElem?_eq_none_iff] at q
          have := Nat.mod_lt (next k) (show 0 < (x :: l).length by simp)
          omega
      subst this
      simp
    | some x =>
      dsimp only
      obtain ⟨hi, hx⟩ := List.getElem?_eq_some_iff.mp q
      have ih := go_perm next fuel (k + 1) (left.eraseIdx (next k % left.length)) (out.push x) (by rw [List.length_eraseIdx_of_lt hi]; omega)
      refine ih.trans ?_
      rw [Array.toList_push, List.append_assoc, List.singleton_append]
      refine List.Perm.append_left _ ?_
      exact erase_perm _ _ _ q
theorem pick_perm {α : Type} (next : Nat → Nat) (xs : Array α) : List.Perm (pickOrder next xs).toList xs.toList := by
  unfold pickOrder
  have := go_perm next xs.size 0 xs.toList #[] (by simp)
  simpa using this

noncomputable def elOf (tok : Nat → Tok) (n : Nat) : Int × Value := ((n : Int), .int n (tok n))
theorem perm_shape {tok : Nat → Tok} {ks : List Nat} {l : List (Int × Value)} (h : l.Perm (esOf tok ks).toList) : ∃ ns : List Nat, l = ns.map (elOf tok) ∧ ns.Perm ks := by
  have e0 : (esOf tok ks).toList = ks.map (elOf tok) := by simp [esOf]; intro a _; rfl
  rw [e0] at h
  refine ⟨l.map (fun e => e.1.toNat), ?_, ?_⟩
  · rw [List.map_map]
    conv => lhs; rw [← List.map_id l]
    refine List.map_congr_left fun e he => ?_
    obtain ⟨n, hn, rfl⟩ := List.mem_map.mp (h.mem_iff.mp he)
    simp [elOf]
  · have := h.map (fun e => e.1.toNat)
    rw [List.map_map] at this
    have e1 : ((fun e : Int × Value => e.1.toNat) ∘ elOf tok) = id := by funext n; simp [elOf]
    rw [e1, List.map_id] at this
    exact this

section
variable {X : Cx} {A : Around} {s s' s'' s₀ : Shared} {Z Z' : ZMap} {H H' : Hp} {env : Env} {σ σ' : Sto}

theorem byText {Q : Bool → Shared → Prop} (h : Q X.bt s) : wpAny X.M A setsByText Q No s := by
  unfold setsByText
  exact wpAny_bind (wpAny_askSetting (wpAny_pure h))
theorem walk_small {a : Addr} {ks : List Nat} {Q : Array (Int × Value) → Shared → Prop} (S : SSAt X s.heap a ks) (h : ∀ (ns : List Nat) tok, ns.Perm ks → Q (ns.map (elOf tok)).toArray s) : wpAny X.M A (setWalk a) Q No s := by
  obtain ⟨tok, ep, mask, finger, moves, ho, hm, hk⟩ := S
  unfold setWalk
  refine wpAny_bind (wp_state ho hm hk ?_)
  dsimp only
  refine wpAny_bind (byText ?_)
  cases q : X.bt with
  | true =>
    rw [if_pos rfl]
    refine wpAny_bind (wpAny_askSetting (wpAny_pure ?_))
    obtain ⟨ns, e, p⟩ := perm_shape (pick_perm (X.M.w.params.setOrder a ep) (esOf tok ks))
    have := h ns tok p
    rw [← e] at this
    exact this
  | false =>
    rw [if_neg (by decide)]
    refine wpAny_bind (wpAny_pure ?_)
    refine wpAny_bind (wpAny_pure ?_)
    have e0 : esOf tok ks = (ks.map (elOf tok)).toArray := rfl
    have := h ks tok (.refl _)
    rw [← e0] at this
    exact wpAny_pure this
theorem SSAt.fz {a : Addr} {ks : List Nat} (S : SSAt X s.heap a ks) : s.TypeIs (.ref a) "frozenset" := by obtain ⟨_, _, _, _, _, ho, _⟩ := S; exact ⟨_, ho, rfl⟩
theorem unseen_small {a : Addr} {ks : List Nat} {os : List Addr} {f : Option Addr} {Q : Array (Int × Value) → Shared → Prop} (S : SSAt X s.heap a ks) (h : ∀ (ns : List Nat) tok, ns.Perm ks → Q (ns.map (elOf tok)).toArray s) : wpAny X.M A (setWalkUnseen a os f) Q No s := by
  obtain ⟨tok, ep, mask, finger, moves, ho, hm, hk⟩ := id S
  unfold setWalkUnseen
  refine wpAny_bind (wp_state ho hm hk ?_)
  dsimp only
  refine wpAny_bind (byText ?_)
  rw [if_pos (by cases X.bt <;> rfl)]
  exact walk_small S h
theorem find_in {a : Addr} {ks : List Nat} {n : Nat} {tk : Tok} {Q : Option Nat → Shared → Prop} (hn : n < 3) (S : SSAt X s.heap a ks) (h : ∀ r : Option Nat, r.isSome = ks.contains n → Q r s) : wpAny X.M A (setFind a (.int n tk) n) Q No s := by
  obtain ⟨tok, ep, mask, finger, moves, ho, hm, hk⟩ := S
  have hh : ((n : Nat) : Int) = (intKind X.prog X.w).hash n := (hash_small hn).symm
  conv => { arg 3; arg 3; rw [hh] }
  refine setFind_any (knd := intKind X.prog X.w) (k := (n : Int)) (S := fun k => ks.any fun m => (m : Int) == k) (intKind_is _ _ _ _) rfl ho rfl (els_small hk) (fun k => ?_) (by rw [esOf_size]; have := subs3_len hk; unfold scanBound; omega) (tabOf_fits hk hm) fun r hr => h r ?_
  · simp only [List.any_eq_true, esOf, List.mem_map]
    constructor
    · rintro ⟨m, hm', e⟩
      refine ⟨_, ⟨m, hm', rfl⟩, ?_⟩
      rw [← eq_of_beq e]
      exact intKind_is _ _ _ _
    · rintro ⟨_, ⟨m, hm', rfl⟩, e⟩
      exact ⟨m, hm', e⟩
  · rw [hr, Bool.eq_iff_iff]
    simp only [List.any_eq_true, List.contains_iff_mem]
    constructor
    · rintro ⟨m, hm', e⟩; rw [← Int.ofNat_inj.mp (eq_of_beq e)]; exact hm'
    · intro hm'; exact ⟨n, hm', beq_self_eq_true _⟩
theorem isAny_fz {v : Value} {Q : Bool → Shared → Prop} (T : s.TypeIs v "frozenset") (h : Q true s) : wpAny X.M A (Builtin.Frozenset.isAnySet v) Q No s := by
  unfold Builtin.Frozenset.isAnySet
  refine wpAny_bind (wpAny_isInstance T Fz.sub_set ?_)
  exact wpAny_isInstance T Fz.sub_self h
theorem sizeOf_small {a : Addr} {ks : List Nat} {Q : Nat → Shared → Prop} (S : SSAt X s.heap a ks) (h : Q ks.length s) : wpAny X.M A (Builtin.Frozenset.sizeOf a) Q No s := by
  obtain ⟨tok, ep, mask, finger, moves, ho, hm, hk⟩ := S
  unfold Builtin.Frozenset.sizeOf setEntries
  refine wpAny_bind (wpAny_bind (wp_state ho hm hk (wpAny_pure (wpAny_pure ?_))))
  rw [esOf_size]; exact h
theorem baseOf_fz {a : Addr} {Q : Value → Shared → Prop} (T : s.TypeIs (.ref a) "frozenset") (h : Q (.type "frozenset") s) : wpAny X.M A (Builtin.Frozenset.baseOf a) Q No s := by
  unfold Builtin.Frozenset.baseOf
  exact wpAny_bind (wpAny_isInstance T Fz.sub_set (wpAny_pure h))
theorem new_small {Q : Value → Shared → Prop} (h : ∀ o : Obj, SSAt X (s.heap.push o) s.heap.objs.size [] → Q (.ref s.heap.objs.size) { s with heap := s.heap.push o }) : wpAny X.M A (newSet (.type "frozenset")) Q No s := by
  unfold newSet
  refine wpAny_bind (byText ?_)
  dsimp only
  exact wpAny_newObj_type (h _ ⟨fun _ => 0, 0, 7, 0, 0, Heap.get?_push_size _ rfl, .inl rfl, by decide⟩)
theorem epoch_small {a : Addr} {ks : List Nat} {Q : Nat → Shared → Prop} (S : SSAt X s.heap a ks) (h : ∀ ep, (∀ (A' : Around) (s' : Shared) (Q' : Nat → Shared → Prop), s'.heap.get? a = s.heap.get? a → Q' ep s' → wpAny X.M A' (setEpoch a) Q' No s') → Q ep s) : wpAny X.M A (setEpoch a) Q No s := by
  obtain ⟨tok, ep, mask, finger, moves, ho, hm, hk⟩ := S
  have key : ∀ (A' : Around) (s' : Shared) (Q' : Nat → Shared → Prop), s'.heap.get? a = s.heap.get? a → Q' ep s' → wpAny X.M A' (setEpoch a) Q' No s' := fun A' s' Q' e hq => by
    unfold setEpoch
    exact wpAny_bind (wp_state (e.trans ho) hm hk (wpAny_pure hq))
  exact key A s Q rfl (h ep key)

theorem canon_congr {l l' : List Nat} (h : ∀ n, n < 3 → (n ∈ l ↔ n ∈ l')) : canon l = canon l' := by
  unfold canon
  refine List.filter_congr fun n hn => ?_
  rw [Bool.eq_iff_iff, List.contains_iff_mem, List.contains_iff_mem]
  exact h n (by simp at hn; omega)
theorem canon_self {ks : List Nat} (h : ks ∈ subs3) : canon ks = ks := by
  simp only [subs3, List.mem_cons, List.not_mem_nil, or_false] at h
  rcases h with rfl | rfl | rfl | rfl | rfl | rfl | rfl | rfl <;> decide
theorem SSAt.sub3 {h : Heap} {a : Addr} {ks : List Nat} (S : SSAt X h a ks) : ks ∈ subs3 := by obtain ⟨_, _, _, _, _, _, _, hk⟩ := S; exact hk

theorem diff_small {id : String} {a b : Addr} {ks js : List Nat} {Q : Value → Shared → Prop} (Sa : SSAt X s.heap a ks) (Sb : SSAt X s.heap b js)
    (h : ∀ r h', s.heap.get? r = none → sysModules < r → (∀ c o, s.heap.get? c = some o → h'.get? c = some o) → SSAt X h' r (canon (ks.filter fun n => !js.contains n)) → Q (.ref r) { s with heap := h' }) (hbig : sysModules < s.heap.objs.size) :
    wpAny X.M A (Builtin.Frozenset.difference id a (.ref b)) Q No s := by
  have la := subs3_len Sa.sub3
  unfold Builtin.Frozenset.difference
  refine wpAny_bind (isAny_fz Sb.fz ?_)
  simp only [Bool.not_true, Bool.false_eq_true, if_false, Bool.false_and]
  refine wpAny_bind (wpAny_pure ?_)
  simp only [if_true]
  refine wpAny_bind (sizeOf_small Sb ?_)
  refine wpAny_bind (sizeOf_small Sa ?_)
  rw [if_neg (by omega)]
  refine wpAny_bind (baseOf_fz Sa.fz (wpAny_bind (new_small fun o S0 => ?_)))
  have k0 := fun c ob (e : s.heap.get? c = some ob) => Heap.get?_push_of_some o e
  have Sa' : SSAt X (s.heap.push o) a ks := Sa.keeps (k0 a)
  have Sb' : SSAt X (s.heap.push o) b js := Sb.keeps (k0 b)
  refine wpAny_bind (wpAny_pure ?_)
  refine wpAny_bind (epoch_small (s := { s with heap := s.heap.push o }) Sa' fun ep hep => ?_)
  refine wpAny_bind (wpAny_holding (wpAny_bind (unseen_small (s := { s with heap := s.heap.push o }) Sa' fun ns tok p => ?_)))
  have hr : s.heap.get? s.heap.objs.size = none := get_size _
  have na : a ≠ s.heap.objs.size := fun e => by subst e; exact (by obtain ⟨_, _, _, _, _, ho, _⟩ := Sa; rw [hr] at ho; cases ho)
  have nb : b ≠ s.heap.objs.size := fun e => by subst e; exact (by obtain ⟨_, _, _, _, _, ho, _⟩ := Sb; rw [hr] at ho; cases ho)
  refine wpAny_bind (PySem.MeetsSeq2.wpAny_forIn_array _ (fun rest _ s' => ∃ h' done restn, s' = { s with heap := h' } ∧ rest = restn.map (elOf tok) ∧ ns = done ++ restn ∧
    SSAt X h' s.heap.objs.size (canon (done.filter fun n => !js.contains n)) ∧ ∀ c, c ≠ s.heap.objs.size → h'.get? c = (s.heap.push o).get? c) _ ?_ ?_ _ _ ⟨s.heap.push o, [], ns, rfl, rfl, rfl, S0, fun _ _ => rfl⟩)
  · rintro x rest _ s' ⟨h', done, restn, rfl, hrest, hns, S1, hsame⟩
    cases restn with
    | nil => cases hrest
    | cons n restn =>
      injection hrest with hx hrest
      subst hx
      have hn : n < 3 := subs3_lt Sa.sub3 (p.mem_iff.mp (by rw [hns]; simp))
      have Sb1 : SSAt X h' b js := Sb'.keeps fun ob e => (hsame b nb).trans e
      refine wpAny_bind (wpAny_holding (wpAny_bind (find_in (s := { s with heap := h' }) hn Sb1 fun r hr' => wpAny_bind (wpAny_pure ?_))))
      rw [hr']
      have fin : ∀ h2 (Q' : ForInStep PUnit → Shared → Prop), (∀ c, c ≠ s.heap.objs.size → h2.get? c = (s.heap.push o).get? c) → Q' (ForInStep.yield PUnit.unit) { s with heap := h2 } →
          wpAny X.M A (Builtin.Frozenset.unchanged id a ep >>= fun _ => pure (ForInStep.yield PUnit.unit)) Q' No { s with heap := h2 } := fun h2 Q' hs2 hq => by
        unfold Builtin.Frozenset.unchanged
        refine wpAny_bind (wpAny_bind (hep A { s with heap := h2 } _ (hs2 a na) ?_))
        rw [if_neg (by simp)]
        exact wpAny_pure (wpAny_pure hq)
      by_cases hc : js.contains n = true
      · rw [hc]
        rw [if_neg (by decide)]
        refine wpAny_pure (fin h' _ hsame ⟨h', done ++ [n], restn, rfl, hrest, by rw [hns]; simp, ?_, hsame⟩)
        rw [List.filter_append]
        simp only [List.filter_cons, hc, Bool.not_true, Bool.false_eq_true, if_false, List.filter_nil, List.append_nil]
        exact S1
      · rw [Bool.not_eq_true] at hc
        rw [hc, if_pos (by decide)]
        refine wpAny_bind (add_small (s := { s with heap := h' }) hn S1 fun _ h2 S2 hs2 => wpAny_pure (fin h2 _ (fun c hc' => (hs2.2 c hc').trans (hsame c hc')) ⟨h2, done ++ [n], restn, rfl, hrest, by rw [hns]; simp, ?_, fun c hc' => (hs2.2 c hc').trans (hsame c hc')⟩))
        rw [canon_congr (l' := (done ++ [n]).filter fun n => !js.contains n)] at S2
        · exact S2
        · intro m hm
          rw [List.mem_cons, mem_canon, List.filter_append, List.mem_append]
          simp only [List.filter_cons, hc, Bool.not_false, if_true, List.filter_nil, List.mem_singleton]
          constructor
          · rintro (e | ⟨e, _⟩)
            · exact .inr e
            · exact .inl e
          · rintro (e | e)
            · exact .inr ⟨e, hm⟩
            · exact .inl e
  · rintro _ s' ⟨h', done, restn, rfl, hrest, hns, S1, hsame⟩
    have : restn = [] := by cases restn with | nil => rfl | cons => cases hrest
    subst this
    rw [List.append_nil] at hns
    subst hns
    refine wpAny_pure (wpAny_pure (h _ h' hr hbig (fun c ob e => (hsame c (fun q => by subst q; rw [hr] at e; cases e)).trans (k0 c ob e)) ?_))
    rw [canon_congr (l' := ns.filter fun n => !js.contains n)]
    · exact S1
    · intro m _
      rw [List.mem_filter, List.mem_filter, p.mem_iff]
end
end Mine

end

noncomputable section
open PySem PySem.W PySem.Calls PyProof.Rows
set_option maxHeartbeats 1000000
namespace Mine
section
variable {X : Cx} {A : Around} {s s' s'' s₀ : Shared} {Z Z' : ZMap} {H H' : Hp} {env : Env} {σ σ' : Sto}

theorem store_small {a : Addr} {o : Obj} {es : Array (Int × Value)} {ep : Nat} {t : SetTable} {ks : List Nat} {tok : Nat → Tok} {mask finger moves : Nat} {Q : Unit → Shared → Prop} (ho : s.heap.get? a = some { cls := .type "frozenset", data := .set es ep t }) (hk : ks ∈ subs3) (hm : mask = 7 ∨ mask = 15)
    (h : ∀ h', SSAt X h' a ks → Heap.SameBut a s.heap h' → Q () { s with heap := h' }) : wpAny X.M A (storeSet a (esOf tok ks) (tabOf mask finger moves (!X.bt) ks)) Q No s := by
  refine wpAny_storeSet_of ho rfl (h _ ⟨tok, ep + 1, mask, finger, moves, ?_, hm, hk⟩ (Heap.SameBut.update ..)) (by rw [esOf_size, sizeLine_eq]; have := subs3_len hk; omega)
  rw [Heap.get?_update_self _ ho (by rw [putSet_of _ _ rfl]; rfl), putSet_of _ _ rfl]
theorem relay_small {a : Addr} {ks : List Nat} {wanted : Nat} {Q : Unit → Shared → Prop} (S : SSAt X s.heap a ks) (hw : wanted = 10 ∨ wanted = 12)
    (h : ∀ h', SSAt X h' a ks → Heap.SameBut a s.heap h' → Q () { s with heap := h' }) : wpAny X.M A (setRelay a wanted) Q No s := by
  obtain ⟨tok, ep, mask, finger, moves, ho, hm, hk⟩ := S
  have fin : ∀ moves', wpAny X.M A (storeSet a (esOf tok ks) (tabOf 15 finger moves' (!X.bt) ks)) Q No s := fun moves' => store_small (o := { cls := .type "frozenset" }) ho hk (.inr rfl) h
  unfold setRelay
  refine wpAny_bind (wp_state ho hm hk ?_)
  dsimp only
  have hz : ¬ (SetTable.sizeAbove wanted > sizeLine) := by
    rw [sizeLine_eq]
    rcases hw with rfl | rfl <;> decide
  rw [if_neg hz]
  refine wpAny_bind (wpAny_of_eq (a := (esOf tok ks, tabOf 15 finger ((tabOf mask finger moves (!X.bt) ks).movedTo 15) (!X.bt) ks)) ?_ (fin _))
  simp only [subs3, List.mem_cons, List.not_mem_nil, or_false] at hk
  rcases hm with rfl | rfl <;> rcases hw with rfl | rfl <;> rcases hk with rfl | rfl | rfl | rfl | rfl | rfl | rfl | rfl <;> kernel_rfl
theorem room_small {a : Addr} {ks : List Nat} {more : Nat} {Q : Unit → Shared → Prop} (S : SSAt X s.heap a ks) (hw : more ≤ 3)
    (h : ∀ h', SSAt X h' a ks → Heap.SameBut a s.heap h' → Q () { s with heap := h' }) : wpAny X.M A (setRoomFor a more) Q No s := by
  obtain ⟨tok, ep, mask, finger, moves, ho, hm, hk⟩ := id S
  have hl := subs3_len hk
  unfold setRoomFor
  refine wpAny_bind (wp_state ho hm hk ?_)
  cases q : (tabOf mask finger moves (!X.bt) ks).roomFor more with
  | none => dsimp only; exact wpAny_pure (h s.heap S (Heap.SameBut.refl ..))
  | some wanted =>
    dsimp only
    refine relay_small S ?_ h
    unfold SetTable.roomFor at q
    split at q
    · rename_i hc
      injection q with q
      simp only [tabOf, SetTable.fill, List.size_toArray] at hc q
      simp only [List.length_nil] at hc
      omega
    · cases q
theorem merge_small {a b : Addr} {ks js : List Nat} {each : Sem Unit} {Q : Unit → Shared → Prop} (hne : a ≠ b) (Sa : SSAt X s.heap a ks) (Sb : SSAt X s.heap b js)
    (heach : ∀ (s' : Shared) (Q' : Unit → Shared → Prop), s'.heap.get? b = s.heap.get? b → Q' () s' → wpAny X.M A each Q' No s')
    (h : ∀ h', SSAt X h' a (canon (ks ++ js)) → Heap.SameBut a s.heap h' → Q () { s with heap := h' }) : wpAny X.M A (setMerge a b each) Q No s := by
  have hlj := subs3_len Sb.sub3
  unfold setMerge
  rw [if_neg (by simpa using hne)]
  obtain ⟨tok, ep, mask, finger, moves, ho, hm, hk⟩ := id Sb
  refine wpAny_bind (wp_state ho hm hk ?_)
  dsimp only
  by_cases he : js = []
  · subst he
    rw [if_pos (show (esOf tok []).isEmpty = true from rfl)]
    refine wpAny_pure (h s.heap ?_ (Heap.SameBut.refl ..))
    rw [List.append_nil, canon_self Sa.sub3]; exact Sa
  · have he' : (esOf tok js).isEmpty = false := by
      rw [Array.isEmpty, esOf_size]; simp; exact he
    rw [he']
    simp only [Bool.false_eq_true, if_false]
    refine wpAny_bind (room_small Sa (by rw [esOf_size]; exact hlj) fun h1 S1 hs1 => ?_)
    have Sb1 : SSAt X h1 b js := Sb.keeps fun ob e => (hs1.2 b hne.symm).trans e
    obtain ⟨tok1, ep1, mask1, finger1, moves1, ho1, hm1, hk1⟩ := id S1
    refine wpAny_bind (wp_state (s := { s with heap := h1 }) ho1 hm1 hk1 ?_)
    dsimp only
    by_cases hks : ks = []
    · subst hks
      have fin : ∀ h2, SSAt X h2 a js → Heap.SameBut a h1 h2 → Q () { s with heap := h2 } := fun h2 S2 hs2 => h h2 (by rw [List.nil_append, canon_self hk]; exact S2) (hs1.trans hs2)
      by_cases hmm : mask1 = mask
      · subst hmm
        have hroad : (tabOf mask1 finger1 moves1 (!X.bt) []).road (tabOf mask1 finger moves (!X.bt) js) = .slotForSlot := by
          unfold SetTable.road
          simp [tabOf, SetTable.fill]
        rw [hroad]
        dsimp only
        have e : ({ mask := (tabOf mask1 finger moves (!X.bt) js).mask, place := (tabOf mask1 finger moves (!X.bt) js).place, dummies := (tabOf mask1 finger moves (!X.bt) js).dummies, finger := (tabOf mask1 finger1 moves1 (!X.bt) []).finger, led := (tabOf mask1 finger1 moves1 (!X.bt) []).led && (tabOf mask1 finger moves (!X.bt) js).led, moves := (tabOf mask1 finger1 moves1 (!X.bt) []).moves, plain := (tabOf mask1 finger1 moves1 (!X.bt) []).plain && (tabOf mask1 finger moves (!X.bt) js).plain } : SetTable) = tabOf mask1 finger1 moves1 (!X.bt) js := by
          simp [tabOf]
        rw [e]
        exact store_small (s := { s with heap := h1 }) (o := { cls := .type "frozenset" }) ho1 hk hm fin
      · have hroad : (tabOf mask1 finger1 moves1 (!X.bt) []).road (tabOf mask finger moves (!X.bt) js) = .clean := by
          unfold SetTable.road
          simp [tabOf, SetTable.fill, hmm]
        rw [hroad]
        dsimp only
        have e1 : ((tabOf mask1 finger1 moves1 (!X.bt) []).led && (tabOf mask finger moves (!X.bt) js).led) = !X.bt := by simp [tabOf]
        have e2 : ((tabOf mask1 finger1 moves1 (!X.bt) []).plain && (tabOf mask finger moves (!X.bt) js).plain) = true := rfl
        rw [e1, e2]
        refine wpAny_bind (wpAny_of_eq (a := (esOf tok js, tabOf mask1 finger1 moves1 (!X.bt) js)) ?_ (store_small (s := { s with heap := h1 }) (o := { cls := .type "frozenset" }) ho1 hk hm1 fin))
        simp only [subs3, List.mem_cons, List.not_mem_nil, or_false] at hk
        rcases hm1 with rfl | rfl <;> rcases hk with rfl | rfl | rfl | rfl | rfl | rfl | rfl | rfl <;> kernel_rfl
    · have hroad : (tabOf mask1 finger1 moves1 (!X.bt) ks).road (tabOf mask finger moves (!X.bt) js) = .oneByOne := by
        unfold SetTable.road
        have : (tabOf mask1 finger1 moves1 (!X.bt) ks).fill ≠ 0 := by
          simp [tabOf, SetTable.fill]; exact hks
        rw [if_pos (by simpa using this)]
      rw [hroad]
      dsimp only
      refine wpAny_bind (unseen_small (s := { s with heap := h1 }) Sb1 fun ns tok' p => ?_)
      refine wpAny_bind (PySem.MeetsSeq2.wpAny_forIn_array _ (fun rest _ s' => ∃ h' done restn, s' = { s with heap := h' } ∧ rest = restn.map (elOf tok') ∧ ns = done ++ restn ∧
        SSAt X h' a (canon (ks ++ done)) ∧ Heap.SameBut a s.heap h') _ ?_ ?_ _ _ ⟨h1, [], ns, rfl, rfl, rfl, by rw [List.append_nil, canon_self hk1]; exact S1, hs1⟩)
      · rintro x rest _ s' ⟨h', done, restn, rfl, hrest, hns, S2, hs2⟩
        cases restn with
        | nil => cases hrest
        | cons n restn =>
          injection hrest with hx hrest
          subst hx
          have hn : n < 3 := subs3_lt hk (p.mem_iff.mp (by rw [hns]; simp))
          refine wpAny_bind (wpAny_holding (add_small (s := { s with heap := h' }) hn S2 fun _ h3 S3 hs3 => ?_))
          have hs4 := hs2.trans hs3
          have hb : h3.get? b = s.heap.get? b := hs4.2 b hne.symm
          refine wpAny_bind (heach { s with heap := h3 } _ hb ?_)
          refine wpAny_bind (wp_state (s := { s with heap := h3 }) (hb.trans ho) hm hk ?_)
          rw [if_neg (by simp)]
          refine wpAny_pure ⟨h3, done ++ [n], restn, rfl, hrest, by rw [hns]; simp, ?_, hs4⟩
          rw [canon_congr (l' := ks ++ (done ++ [n]))] at S3
          · exact S3
          · intro m hm'
            simp only [List.mem_cons, mem_canon, List.mem_append, List.mem_singleton, List.not_mem_nil, or_false]
            constructor
            · rintro (e | ⟨e | e, _⟩)
              · exact .inr (.inr e)
              · exact .inl e
              · exact .inr (.inl e)
            · rintro (e | e | e)
              · exact .inr ⟨.inl e, hm'⟩
              · exact .inr ⟨.inr e, hm'⟩
              · exact .inl e
      · rintro _ s' ⟨h', done, restn, rfl, hrest, hns, S2, hs2⟩
        have : restn = [] := by cases restn with | nil => rfl | cons => cases hrest
        subst this
        rw [List.append_nil] at hns
        subst hns
        refine wpAny_pure (h _ ?_ hs2)
        rw [canon_congr (l' := ks ++ ns)]
        · exact S2
        · intro m _
          simp only [List.mem_append, p.mem_iff]

/-! the builtins -/
theorem call_sub {a b : Addr} {ks js : List Nat} {Q : D → Hp → Prop} (o : Ok X s Z H) (Sa : SSAt X s.heap a ks) (Sb : SSAt X s.heap b js) (h : Q (.sset (canon (ks.filter fun n => !js.contains n))) H) :
    wpAny X.M A (binaryOp .Sub (.ref a) (.ref b)) (PE X s Z H Q) No s := by
  refine wpAny_binaryOp_same (op := .Sub) Sa.fz Sb.fz Fz.fills_sub Fz.slot_sub (wpAny_call_entry Fz.slot_sub Sa.fz Fz.entry_sub ?_ (Fz.args_sub _ _))
  show wpAny _ _ (do
    let (self, other) ← Builtin.Frozenset.slot1 "__sub__" ⟨[.ref a, .ref b], []⟩
    let (l, r) := if false then (other, self) else (self, other)
    if !(← Builtin.Frozenset.isAnySet l <&&> Builtin.Frozenset.isAnySet r) then rule s!"frozenset.{"__sub__"}.declined"; return ← ret .notImplemented
    ret (← Builtin.Frozenset.difference s!"frozenset.{"__sub__"}" (← Builtin.Frozenset.addrOf l) r)) _ _ s
  refine wpAny_bind (wpAny_pure ?_)
  dsimp only
  refine wpAny_bind (wpAny_bind (isAny_fz Sa.fz (isAny_fz Sb.fz ?_)))
  simp only [Bool.not_true, Bool.false_eq_true, if_false]
  refine wpAny_bind (wpAny_pure (wpAny_bind (diff_small Sa Sb (fun r h' hn hl k S => wpAny_pure ⟨_, rfl, by simp, ?_⟩) o.big)))
  obtain ⟨ob, ho, hr⟩ := S.orep (X := X) (Z := Z)
  exact PE.newZ (tk := s.toks) o k hn hl ho hr h
end
end Mine

end

noncomputable section
open PySem PySem.W PySem.Calls PyProof.Rows
set_option maxHeartbeats 1000000
namespace Mine
section
variable {X : Cx} {A : Around} {s s' s'' s₀ : Shared} {Z Z' : ZMap} {H H' : Hp} {env : Env} {σ σ' : Sto}

theorem copy_small {a : Addr} {ks : List Nat} {Q : Value → Shared → Prop} (Sa : SSAt X s.heap a ks)
    (h : ∀ h', (∀ c o, s.heap.get? c = some o → h'.get? c = some o) → SSAt X h' s.heap.objs.size ks → Q (.ref s.heap.objs.size) { s with heap := h' }) : wpAny X.M A (Builtin.Frozenset.copyOf a) Q No s := by
  unfold Builtin.Frozenset.copyOf
  refine wpAny_bind (baseOf_fz Sa.fz (wpAny_bind (new_small fun o S0 => ?_)))
  have k0 := fun c ob (e : s.heap.get? c = some ob) => Heap.get?_push_of_some o e
  have hr : s.heap.get? s.heap.objs.size = none := get_size _
  have na : s.heap.objs.size ≠ a := fun e => by subst e; exact (by obtain ⟨_, _, _, _, _, ho, _⟩ := Sa; rw [hr] at ho; cases ho)
  refine wpAny_bind (wpAny_pure (wpAny_bind (merge_small (s := { s with heap := s.heap.push o }) na S0 (Sa.keeps (k0 a)) (fun s' Q' _ hq => wpAny_pure hq) fun h' S' hs' => wpAny_pure (h h' (fun c ob e => ?_) ?_))))
  · exact (hs'.2 c (fun q => by subst q; rw [hr] at e; cases e)).trans (k0 c ob e)
  · rw [List.nil_append, canon_self Sa.sub3] at S'; exact S'
theorem call_or {a b : Addr} {ks js : List Nat} {Q : D → Hp → Prop} (o : Ok X s Z H) (Sa : SSAt X s.heap a ks) (Sb : SSAt X s.heap b js) (h : Q (.sset (canon (ks ++ js))) H) :
    wpAny X.M A (binaryOp .BitOr (.ref a) (.ref b)) (PE X s Z H Q) No s := by
  refine wpAny_binaryOp_same (op := .BitOr) Sa.fz Sb.fz Fz.fills_or Fz.slot_or (wpAny_call_entry Fz.slot_or Sa.fz Fz.entry_or ?_ (Fz.args_or _ _))
  have hr : s.heap.get? s.heap.objs.size = none := get_size _
  have na : s.heap.objs.size ≠ b := fun e => by subst e; exact (by obtain ⟨_, _, _, _, _, ho, _⟩ := Sb; rw [hr] at ho; cases ho)
  show wpAny _ _ (do
    let (self, other) ← Builtin.Frozenset.slot1 "__or__" ⟨[.ref a, .ref b], []⟩
    let (l, r) := if false then (other, self) else (self, other)
    if !(← Builtin.Frozenset.isAnySet l <&&> Builtin.Frozenset.isAnySet r) then rule s!"frozenset.{"__or__"}.declined"; return ← ret .notImplemented
    let x ← Builtin.Frozenset.addrOf l
    ret (← (do
      let result ← Builtin.Frozenset.copyOf x
      if r != .ref x then holding [result] (Builtin.Frozenset.updateFrom s!"frozenset.{"__or__"}" (← Builtin.Frozenset.addrOf result) r)
      return result))) _ _ s
  refine wpAny_bind (wpAny_pure ?_)
  dsimp only
  refine wpAny_bind (wpAny_bind (isAny_fz Sa.fz (isAny_fz Sb.fz ?_)))
  simp only [Bool.not_true, Bool.false_eq_true, if_false]
  refine wpAny_bind (wpAny_pure (wpAny_bind (wpAny_bind (copy_small Sa fun h1 k1 S1 => ?_))))
  by_cases hab : a = b
  · subst hab
    rw [if_neg (by simp)]
    refine wpAny_pure (wpAny_pure ⟨_, rfl, by simp, ?_⟩)
    obtain ⟨ob, ho, hr'⟩ := S1.orep (X := X) (Z := Z)
    refine PE.newZ (tk := s.toks) o k1 hr o.big ho hr' ?_
    rw [canon_congr (l' := ks)] at h
    · rw [canon_self Sa.sub3] at h; exact h
    · intro n _
      have := Sb.sub3
      obtain ⟨t1, e1, m1, f1, v1, h1', _⟩ := Sa
      obtain ⟨t2, e2, m2, f2, v2, h2', _⟩ := Sb
      rw [h1'] at h2'
      injection h2' with h2'
      injection h2' with _ _ h2' _
      injection h2' with h2' _ _
      have : ks = js := by
        have := congrArg (fun l : Array (Int × Value) => l.toList.map fun e => e.1.toNat) h2'
        simpa [esOf, List.map_map, Function.comp_def] using this
      subst this
      simp
  · rw [if_pos (by simp; exact fun e => hab e.symm)]
    refine wpAny_bind (wpAny_pure (wpAny_bind (wpAny_holding ?_)))
    have Sb1 : SSAt X h1 b js := Sb.keeps (k1 b)
    unfold Builtin.Frozenset.updateFrom
    refine wpAny_bind (isAny_fz (s := { s with heap := h1 }) Sb1.fz ?_)
    rw [if_pos rfl]
    refine wpAny_bind (wpAny_pure ?_)
    unfold Builtin.Frozenset.merge
    refine wpAny_bind (epoch_small (s := { s with heap := h1 }) Sb1 fun ep hep => ?_)
    refine merge_small (s := { s with heap := h1 }) na S1 Sb1 (fun s' Q' e hq => ?_) fun h2 S2 hs2 => ?_
    · unfold Builtin.Frozenset.unchanged
      refine wpAny_bind (hep _ s' _ e ?_)
      rw [if_neg (by simp)]
      exact wpAny_pure hq
    · refine wpAny_pure (wpAny_pure ⟨_, rfl, by simp, ?_⟩)
      obtain ⟨ob, ho, hr'⟩ := S2.orep (X := X) (Z := Z)
      exact PE.newZ (tk := s.toks) o (fun c ob e => (hs2.2 c (fun q => by subst q; rw [hr] at e; cases e)).trans (k1 c ob e)) hr o.big ho hr' h
theorem entries_small {a : Addr} {ks : List Nat} {Q : Array (Int × Value) → Shared → Prop} (S : SSAt X s.heap a ks) (h : ∀ tok, Q (esOf tok ks) s) : wpAny X.M A (setEntries a) Q No s := by
  obtain ⟨tok, ep, mask, finger, moves, ho, hm, hk⟩ := S
  unfold setEntries
  exact wpAny_bind (wp_state ho hm hk (wpAny_pure (h tok)))
theorem subset_small {id : String} {a b : Addr} {ks js : List Nat} {Q : Bool → Shared → Prop} (Sa : SSAt X s.heap a ks) (Sb : SSAt X s.heap b js) (hl : ks.length = js.length) (h : Q (ks.all fun n => js.contains n) s) :
    wpAny X.M A (Builtin.Frozenset.subsetOf id a b) Q No s := by
  unfold Builtin.Frozenset.subsetOf
  refine wpAny_bind (sizeOf_small Sa (wpAny_bind (sizeOf_small Sb ?_)))
  rw [if_neg (by omega)]
  refine wpAny_bind (epoch_small Sa fun ep hep => ?_)
  refine wpAny_bind ?_
  unfold Builtin.Frozenset.walkUnseen
  refine wpAny_bind (entries_small Sa fun tok => wpAny_bind (entries_small Sb fun tok2 => ?_))
  have quiet : ∀ e ∈ (esOf tok ks).toList ++ (esOf tok2 js).toList, Builtin.Frozenset.quietEq e.2 = pure true := fun e he => by
    rcases List.mem_append.mp he with he | he <;> (simp only [esOf, List.mem_map] at he; obtain ⟨n, _, rfl⟩ := he; rfl)
  refine wpAny_bind (wpAny_forIn_list _ (fun rest r s' => r.1 = none ∧ s' = s ∧ ∀ e ∈ rest, Builtin.Frozenset.quietEq e.2 = pure true) _ ?_ ?_ _ _ ⟨rfl, rfl, quiet⟩)
  · rintro x rest r s' ⟨_, e0, hq⟩
    refine wpAny_bind (wpAny_of_eq (hq x (.head _)) ?_)
    rw [if_neg (by decide)]
    exact wpAny_pure ⟨rfl, e0, fun e he => hq e (.tail _ he)⟩
  · rintro r s' ⟨hr, e0, _⟩
    subst e0
    dsimp only
    rw [hr]
    refine wpAny_pure ?_
    refine wpAny_bind (wpAny_forIn_list _ (fun rest r s₁ => ∃ done restn, r.1 = none ∧ s₁ = s' ∧ rest = restn.map (elOf tok) ∧ ks = done ++ restn ∧ (done.all fun n => js.contains n) = true) _ ?_ ?_ _ _ ⟨[], ks, rfl, rfl, by simp [esOf]; intro a _; rfl, rfl, rfl⟩)
    · rintro x rest r s₁ ⟨done, restn, _, e0, hrest, hks, hall⟩
      subst e0
      cases restn with
      | nil => cases hrest
      | cons n restn =>
        injection hrest with hx hrest
        subst hx
        have hn : n < 3 := subs3_lt Sa.sub3 (by rw [hks]; simp)
        refine wpAny_bind (wpAny_holding (find_in hn Sb fun r hr => ?_))
        cases hc : js.contains n with
        | true =>
          rw [hc] at hr
          rw [if_neg (by rw [Option.isNone_iff_eq_none]; intro e; rw [e] at hr; cases hr)]
          unfold Builtin.Frozenset.unchanged
          refine wpAny_bind (wpAny_bind (hep _ _ _ rfl ?_))
          rw [if_neg (by simp)]
          refine wpAny_pure (wpAny_pure ⟨done ++ [n], restn, rfl, rfl, hrest, by rw [hks]; simp, ?_⟩)
          rw [List.all_append, hall]; simp [List.contains_iff_mem.mp hc]
        | false =>
          rw [hc] at hr
          rw [if_pos (by cases r with | none => rfl | some _ => cases hr)]
          refine wpAny_pure ?_
          have : (ks.all fun n => js.contains n) = false := by
            rw [hks, List.all_append, List.all_cons, hc]; simp
          rw [this] at h
          exact wpAny_pure h
    · rintro r s₁ ⟨done, restn, hr, e0, hrest, hks, hall⟩
      subst e0
      have : restn = [] := by cases restn with | nil => rfl | cons => cases hrest
      subst this
      rw [List.append_nil] at hks
      subst hks
      rw [hr]
      rw [hall] at h
      exact wpAny_pure h

theorem sub_eq {ks js : List Nat} (hk : ks ∈ subs3) (hj : js ∈ subs3) (hl : ks.length = js.length) : (ks.all fun n => js.contains n) = decide (ks = js) := by
  simp only [subs3, List.mem_cons, List.not_mem_nil, or_false] at hk hj
  rcases hk with rfl | rfl | rfl | rfl | rfl | rfl | rfl | rfl <;> rcases hj with rfl | rfl | rfl | rfl | rfl | rfl | rfl | rfl <;> first | decide | (simp at hl)
theorem keys_esOf {tok : Nat → Tok} {ks : List Nat} : (esOf tok ks).toList.map (·.1) = ks.map fun n : Nat => (n : Int) := by
  simp [esOf, List.map_map, Function.comp_def]
theorem call_eqS {a b : Addr} {ks js : List Nat} {Q : Value → Shared → Prop} (Sa : SSAt X s.heap a ks) (Sb : SSAt X s.heap b js) (h : Q (.bool (decide (ks = js))) s) :
    wpAny X.M A (call (.builtin "frozenset.__eq__") [.ref a, .ref b]) (fun v s' => v ≠ .notImplemented ∧ Q v s') No s := by
  refine wpAny_call_entry Fz.slot_eq Sa.fz Fz.entry_eq ?_ (Fz.args_eq _ _)
  unfold Builtin.«frozenset.__eq__»
  refine wpAny_bind (m := Builtin.Frozenset.slot1 "__eq__" ⟨[.ref a, .ref b], []⟩) (wpAny_pure ?_)
  refine wpAny_bind (isAny_fz Sb.fz ?_)
  simp only [Bool.not_true, Bool.false_eq_true, if_false]
  refine wpAny_bind (wpAny_pure (wpAny_bind (wpAny_pure (wpAny_bind (sizeOf_small Sa (wpAny_bind (sizeOf_small Sb ?_)))))))
  refine wpAny_bind ?_
  by_cases hn : ks.length = js.length
  · rw [if_neg (by simpa using hn)]
    refine wpAny_bind (wpAny_bind (wpAny_isInstance Sa.fz Fz.sub_self (wpAny_isInstance Sb.fz Fz.sub_self ?_)))
    rw [if_pos (rfl : true = true)]
    refine wpAny_bind (entries_small Sa fun tok => wpAny_bind (entries_small Sb fun tok2 => ?_))
    generalize hh : (Builtin.Frozenset.hashOf ((esOf tok ks).toList.map (·.1)) != Builtin.Frozenset.hashOf ((esOf tok2 js).toList.map (·.1))) = g
    cases g with
    | true =>
      rw [if_pos (rfl : true = true)]
      have hne : decide (ks = js) = false := by
        rw [decide_eq_false_iff_not]
        rintro rfl
        rw [keys_esOf, keys_esOf] at hh
        simp at hh
      rw [hne] at h
      have quiet : ∀ {tok : Nat → Tok} {l : List Nat}, ∀ e ∈ (esOf tok l).toList, Builtin.Frozenset.quietEq e.2 = pure true := fun e he => by
        simp only [esOf, List.mem_map] at he; obtain ⟨n, _, rfl⟩ := he; rfl
      refine wpAny_bind (PySem.MeetsSeq2.wpAny_forIn_array _ (fun rest r s' => s' = s ∧ ∀ e ∈ rest, Builtin.Frozenset.quietEq e.2 = pure true) _ ?_ ?_ _ _ ⟨rfl, quiet⟩)
      · rintro x rest r s' ⟨e0, hq⟩
        refine wpAny_bind (wpAny_of_eq (hq x (.head _)) ?_)
        rw [if_neg (by decide)]
        exact wpAny_pure ⟨e0, fun e he => hq e (.tail _ he)⟩
      rintro r s' ⟨e0, _⟩
      subst e0
      refine wpAny_bind (PySem.MeetsSeq2.wpAny_forIn_array _ (fun rest r s₁ => s₁ = s' ∧ ∀ e ∈ rest, Builtin.Frozenset.quietEq e.2 = pure true) _ ?_ ?_ _ _ ⟨rfl, quiet⟩)
      · rintro x rest r s₁ ⟨e0, hq⟩
        refine wpAny_bind (wpAny_of_eq (hq x (.head _)) ?_)
        rw [if_neg (by decide)]
        exact wpAny_pure ⟨e0, fun e he => hq e (.tail _ he)⟩
      rintro r s₁ ⟨e0, _⟩
      subst e0
      exact wpAny_bind (wpAny_rule (wpAny_pure (wpAny_pure ⟨_, rfl, by simp, h⟩)))
    | false =>
      rw [if_neg Bool.false_ne_true]
      refine subset_small Sa Sb hn ?_
      rw [sub_eq Sa.sub3 Sb.sub3 hn]
      exact wpAny_pure ⟨_, rfl, by simp, h⟩
  · rw [if_pos (by simpa using hn)]
    have hne : decide (ks = js) = false := by
      rw [decide_eq_false_iff_not]
      rintro rfl
      exact hn rfl
    rw [hne] at h
    exact wpAny_pure (wpAny_pure ⟨_, rfl, by simp, h⟩)
theorem call_neS {a b : Addr} {ks js : List Nat} {Q : Value → Shared → Prop} (Sa : SSAt X s.heap a ks) (Sb : SSAt X s.heap b js) (h : Q (.bool (!decide (ks = js))) s) :
    wpAny X.M A (call (.builtin "frozenset.__ne__") [.ref a, .ref b]) (fun v s' => v ≠ .notImplemented ∧ Q v s') No s := by
  refine wpAny_call_entry Fz.slot_ne Sa.fz Fz.entry_ne ?_ (Fz.args_ne _ _)
  unfold Builtin.«frozenset.__ne__»
  refine wpAny_bind (m := Builtin.Frozenset.slot1 "__ne__" ⟨[.ref a, .ref b], []⟩) (wpAny_pure ?_)
  refine wpAny_bind (isAny_fz Sb.fz ?_)
  simp only [Bool.not_true, Bool.false_eq_true, if_false]
  refine wpAny_bind (wpAny_pure (wpAny_bind (wpAny_pure (wpAny_bind (sizeOf_small Sa (wpAny_bind (sizeOf_small Sb ?_)))))))
  refine wpAny_bind ?_
  by_cases hn : ks.length = js.length
  · rw [if_neg (by simpa using hn)]
    refine wpAny_bind (wpAny_bind (wpAny_isInstance Sa.fz Fz.sub_self (wpAny_isInstance Sb.fz Fz.sub_self ?_)))
    rw [if_pos (rfl : true = true)]
    refine wpAny_bind (entries_small Sa fun tok => wpAny_bind (entries_small Sb fun tok2 => ?_))
    generalize hh : (Builtin.Frozenset.hashOf ((esOf tok ks).toList.map (·.1)) != Builtin.Frozenset.hashOf ((esOf tok2 js).toList.map (·.1))) = g
    cases g with
    | true =>
      rw [if_pos (rfl : true = true)]
      have hne : decide (ks = js) = false := by
        rw [decide_eq_false_iff_not]
        rintro rfl
        rw [keys_esOf, keys_esOf] at hh
        simp at hh
      rw [hne] at h
      have quiet : ∀ {tok : Nat → Tok} {l : List Nat}, ∀ e ∈ (esOf tok l).toList, Builtin.Frozenset.quietEq e.2 = pure true := fun e he => by
        simp only [esOf, List.mem_map] at he; obtain ⟨n, _, rfl⟩ := he; rfl
      refine wpAny_bind (PySem.MeetsSeq2.wpAny_forIn_array _ (fun rest r s' => s' = s ∧ ∀ e ∈ rest, Builtin.Frozenset.quietEq e.2 = pure true) _ ?_ ?_ _ _ ⟨rfl, quiet⟩)
      · rintro x rest r s' ⟨e0, hq⟩
        refine wpAny_bind (wpAny_of_eq (hq x (.head _)) ?_)
        rw [if_neg (by decide)]
        exact wpAny_pure ⟨e0, fun e he => hq e (.tail _ he)⟩
      rintro r s' ⟨e0, _⟩
      subst e0
      refine wpAny_bind (PySem.MeetsSeq2.wpAny_forIn_array _ (fun rest r s₁ => s₁ = s' ∧ ∀ e ∈ rest, Builtin.Frozenset.quietEq e.2 = pure true) _ ?_ ?_ _ _ ⟨rfl, quiet⟩)
      · rintro x rest r s₁ ⟨e0, hq⟩
        refine wpAny_bind (wpAny_of_eq (hq x (.head _)) ?_)
        rw [if_neg (by decide)]
        exact wpAny_pure ⟨e0, fun e he => hq e (.tail _ he)⟩
      rintro r s₁ ⟨e0, _⟩
      subst e0
      exact wpAny_bind (wpAny_rule (wpAny_pure (wpAny_pure ⟨_, rfl, by simp, h⟩)))
    | false =>
      rw [if_neg Bool.false_ne_true]
      refine subset_small Sa Sb hn ?_
      rw [sub_eq Sa.sub3 Sb.sub3 hn]
      exact wpAny_pure ⟨_, rfl, by simp, h⟩
  · rw [if_pos (by simpa using hn)]
    have hne : decide (ks = js) = false := by
      rw [decide_eq_false_iff_not]
      rintro rfl
      exact hn rfl
    rw [hne] at h
    exact wpAny_pure (wpAny_pure ⟨_, rfl, by simp, h⟩)
end
end Mine

end

noncomputable section
open PySem PySem.W PySem.Calls PyProof.Rows
set_option maxHeartbeats 1000000
namespace Mine

noncomputable def slotAt (bt : Bool) (ks : List Nat) (i : Nat) : Nat := if bt then 0 else match i with
  | 0 => 0
  | i + 1 => ks.getD i 0 + 1
theorem below_slot {ks : List Nat} (hk : ks ∈ subs3) {i : Nat} (hi : i ≤ ks.length) : SetTable.below ks.toArray (slotAt false ks i) = i := by
  have := subs3_len hk
  have hi3 : i = 0 ∨ i = 1 ∨ i = 2 ∨ i = 3 := by omega
  simp only [subs3, List.mem_cons, List.not_mem_nil, or_false] at hk
  rcases hk with rfl | rfl | rfl | rfl | rfl | rfl | rfl | rfl <;> rcases hi3 with rfl | rfl | rfl | rfl <;> first | decide | (simp at hi)
/-- the order in which a set is walked -/
noncomputable def ordOf (X : Cx) (a : Addr) (ep : Nat) (es : Array (Int × Value)) : Array (Int × Value) := if X.bt then pickOrder (X.M.w.params.setOrder a ep) es else es
theorem ord_perm {X : Cx} {a : Addr} {ep : Nat} {es : Array (Int × Value)} : List.Perm (ordOf X a ep es).toList es.toList := by
  unfold ordOf
  split
  · exact pick_perm _ _
  · exact .refl _
theorem ord_size {X : Cx} {a : Addr} {ep : Nat} {es : Array (Int × Value)} : (ordOf X a ep es).size = es.size := by
  rw [← Array.length_toList, ord_perm.length_eq, Array.length_toList]
section
variable {X : Cx} {A : Around} {s s' s'' s₀ : Shared} {Z Z' : ZMap} {H H' : Hp} {env : Env} {σ σ' : Sto}

theorem next_small {a : Addr} {ks : List Nat} {tok : Nat → Tok} {ep mask finger moves i : Nat} {Q : Option (Value × Nat) → Shared → Prop} (ho : s.heap.get? a = some { cls := .type "frozenset", data := .set (esOf tok ks) ep (tabOf mask finger moves (!X.bt) ks) })
    (hm : mask = 7 ∨ mask = 15) (hk : ks ∈ subs3) (hi : i ≤ ks.length) (h : Q (((ordOf X a ep (esOf tok ks))[i]?).map fun e => (e.2, slotAt X.bt ks (i + 1))) s) :
    wpAny X.M A (setNext a (slotAt X.bt ks i) i ep) Q No s := by
  unfold setNext
  refine wpAny_bind (wp_state ho hm hk ?_)
  dsimp only
  refine wpAny_bind (byText ?_)
  unfold ordOf at h
  cases q : X.bt with
  | true =>
    rw [q] at h
    simp only [if_true] at h ⊢
    rw [if_neg (by simp)]
    refine wpAny_bind ?_
    unfold setWalk
    refine wpAny_bind (wp_state ho hm hk ?_)
    dsimp only
    refine wpAny_bind (byText ?_)
    rw [q]
    rw [if_pos rfl]
    exact wpAny_bind (wpAny_askSetting (wpAny_pure (wpAny_pure h)))
  | false =>
    rw [q] at h ho
    simp only [Bool.false_eq_true, if_false] at h ⊢
    refine wpAny_bind (wpAny_pure ?_)
    have hb : SetTable.below (tabOf mask finger moves (!false) ks).place (slotAt false ks i) = i := below_slot hk hi
    rw [hb]
    rcases Nat.lt_or_ge i ks.length with hlt | hge
    · have e1 : (esOf tok ks)[i]? = some (elOf tok ks[i]) := by
        rw [← Array.getElem?_toList]
        simp [esOf, hlt, elOf]
      have e2 : (tabOf mask finger moves (!false) ks).place[i]? = some ks[i] := by
        simp [tabOf, hlt]
      rw [e1] at h ⊢
      rw [e2]
      dsimp only
      have e3 : slotAt false ks (i + 1) = ks[i] + 1 := by simp [slotAt, hlt]
      rw [e3] at h
      exact wpAny_pure h
    · have e1 : (esOf tok ks)[i]? = none := by rw [Array.getElem?_eq_none_iff, esOf_size]; exact hge
      rw [e1] at h ⊢
      exact wpAny_pure h

noncomputable def IsSetIter (h : Heap) (I a : Addr) (slot i n ep : Nat) : Prop := h.get? I = some { cls := .type "set_iterator", data := .fields #[rawInt slot, rawInt i, .ref a, rawInt n, rawInt ep] }

theorem Walks.small (hh : A.handled = none) {I a : Addr} {ks : List Nat} {tok : Nat → Tok} {ep mask finger moves : Nat} (hne : a ≠ I) (hm : mask = 7 ∨ mask = 15) (hk : ks ∈ subs3) :
    Walks X.prog X.w A I [I, a] [I] ks.length (fun i v => ∃ h, (ordOf X a ep (esOf tok ks))[i]? = some (h, v)) (fun i h => i ≤ ks.length ∧ IsSetIter h I a (slotAt X.bt ks i) i ks.length ep ∧ h.get? a = some { cls := .type "frozenset", data := .set (esOf tok ks) ep (tabOf mask finger moves (!X.bt) ks) }) where
  sub := fun b hb => by simp at hb; simp [hb]
  frame := fun _ _ _ st hk => ⟨st.1, hk I (by simp) _ st.2.1, hk a (by simp) _ st.2.2⟩
  item := fun i s Q E hi st hQ => by
    obtain ⟨_, hit, ho⟩ := st
    have hT : s.TypeIs (.ref I) "set_iterator" := ⟨_, hit, rfl⟩
    unfold pyNext
    refine wpAny_bind (wpAny_attempt (wpAny_callSpecial?_slot (name := Str.ofString "__next__") hT Fz.slot_itnext (wpAny_call_entry Fz.slot_itnext hT Fz.entry_itnext ?_ (Fz.args_itnext _))))
    refine wpAny_bind (m := slotArgs "__next__" 0 ⟨[.ref I], []⟩) (wpAny_pure ?_)
    refine wpAny_bind (wpAny_fieldsOf hit rfl ?_)
    show wpAny _ _ (setEntries a >>= _) _ _ s
    refine wpAny_bind (wpAny_setEntries_of ho rfl (tabOf_fits hk hm) ?_)
    rw [if_neg (by rw [esOf_size]; simp)]
    show wpAny _ _ (setNext a (Int.toNat ↑(slotAt X.bt ks i)) (Int.toNat ↑i) (Int.toNat ↑ep) >>= _) _ _ s
    rw [Int.toNat_natCast, Int.toNat_natCast, Int.toNat_natCast]
    have hlt : i < (ordOf X a ep (esOf tok ks)).size := by rw [ord_size, esOf_size]; exact hi
    have hget : (ordOf X a ep (esOf tok ks))[i]? = some (ordOf X a ep (esOf tok ks))[i] := Array.getElem?_eq_getElem hlt
    refine wpAny_bind (wpAny_mono (next_small (Q := fun r s' => r = ((ordOf X a ep (esOf tok ks))[i]?).map (fun e => (e.2, slotAt X.bt ks (i + 1))) ∧ s' = s) ho hm hk (Nat.le_of_lt hi) ⟨rfl, rfl⟩) (fun r s' q => ?_) fun _ _ f => f.elim)
    obtain ⟨rfl, e0⟩ := q
    subst e0
    rw [hget]
    dsimp only [Option.map]
    refine wpAny_bind (wpAny_setField hit rfl (by simp) ?_)
    have g1 : ∀ x : Obj, x = Obj.mapFields (·.setIfInBounds 0 (rawInt ↑(slotAt X.bt ks (i + 1)))) ({ cls := .type "set_iterator", data := .fields #[rawInt ↑(slotAt X.bt ks i), rawInt ↑i, .ref a, rawInt ↑ks.length, rawInt ↑ep] } : Obj) →
        x = { cls := .type "set_iterator", data := .fields #[rawInt ↑(slotAt X.bt ks (i + 1)), rawInt ↑i, .ref a, rawInt ↑ks.length, rawInt ↑ep] } := fun x e => e
    have h1 := Heap.get?_update_self (Obj.mapFields (·.setIfInBounds 0 (rawInt ↑(slotAt X.bt ks (i + 1))))) hit rfl
    refine wpAny_bind (wpAny_setField h1 rfl (by simp) (wpAny_pure ⟨_, rfl, wpAny_pure ?_⟩))
    refine hQ _ _ s'.toks ⟨_, hget⟩ ⟨hi, Heap.get?_update_self _ h1 rfl, ?_⟩ fun b o hb e => ?_
    · have k := ((Heap.SameBut.update s'.heap I (Obj.mapFields (·.setIfInBounds 0 (rawInt ↑(slotAt X.bt ks (i + 1)))))).trans (Heap.SameBut.update _ I (Obj.mapFields (·.setIfInBounds 1 (rawInt (↑i + 1))))))
      exact (k.2 a hne).trans ho
    · have k := ((Heap.SameBut.update s'.heap I (Obj.mapFields (·.setIfInBounds 0 (rawInt ↑(slotAt X.bt ks (i + 1)))))).trans (Heap.SameBut.update _ I (Obj.mapFields (·.setIfInBounds 1 (rawInt (↑i + 1))))))
      exact (k.2 b (by simpa using hb)).trans e
  done := fun s Q E st hQ => by
    obtain ⟨_, hit, ho⟩ := st
    have hT : s.TypeIs (.ref I) "set_iterator" := ⟨_, hit, rfl⟩
    unfold pyNext
    refine wpAny_bind (wpAny_attempt (wpAny_callSpecial?_slot (name := Str.ofString "__next__") hT Fz.slot_itnext (wpAny_call_entry Fz.slot_itnext hT Fz.entry_itnext ?_ (Fz.args_itnext _))))
    refine wpAny_bind (m := slotArgs "__next__" 0 ⟨[.ref I], []⟩) (wpAny_pure ?_)
    refine wpAny_bind (wpAny_fieldsOf hit rfl ?_)
    show wpAny _ _ (setEntries a >>= _) _ _ s
    refine wpAny_bind (wpAny_setEntries_of ho rfl (tabOf_fits hk hm) ?_)
    rw [if_neg (by rw [esOf_size]; simp)]
    show wpAny _ _ (setNext a (Int.toNat ↑(slotAt X.bt ks ks.length)) (Int.toNat ↑ks.length) (Int.toNat ↑ep) >>= _) _ _ s
    rw [Int.toNat_natCast, Int.toNat_natCast, Int.toNat_natCast]
    have hget : (ordOf X a ep (esOf tok ks))[ks.length]? = none := by rw [Array.getElem?_eq_none_iff, ord_size, esOf_size]; exact Nat.le_refl _
    refine wpAny_bind (wpAny_mono (next_small (Q := fun r s' => r = ((ordOf X a ep (esOf tok ks))[ks.length]?).map (fun e => (e.2, slotAt X.bt ks (ks.length + 1))) ∧ s' = s) ho hm hk (Nat.le_refl _) ⟨rfl, rfl⟩) (fun r s' q => ?_) fun _ _ f => f.elim)
    obtain ⟨rfl, e0⟩ := q
    subst e0
    rw [hget]
    dsimp only [Option.map]
    refine wpAny_bind (wpAny_setField hit rfl (by simp) ?_)
    show wpAny _ _ (newExc (.type "StopIteration") [] >>= _) _ _ _
    refine wpAny_bind ?_
    simp only [newExc, newTuple]
    refine wpAny_bind (wpAny_newObj_type ?_ (by size_fits))
    refine wpAny_bind (m := firstArgMember _ _) (wpAny_of_eq (a := Value.none) (by first | rfl | (simp only [firstArgMember]; rfl)) ?_)
    refine wpAny_newObj_type ?_ (by size_fits)
    simp only [raiseNew]
    refine wpAny_bind (wpAny_handled ?_)
    first | rw [show A.in1.handled = none from hh] | rw [hh]
    refine wpAny_bind (wpAny_pure (wpAny_throw ?_))
    refine wpAny_bind (wpAny_isInstance (T := "StopIteration") (b := true) ⟨_, Heap.get?_push_size _ rfl, rfl⟩ isSubtype_stop ?_)
    exact wpAny_pure (hQ _ _ fun b o hb e => (((Heap.SameBut.update ..).extBut.push _).push _) b o (by simpa using hb) e)
  self := fun i s Q E st hQ => by
    obtain ⟨_, hit, ho⟩ := st
    have hT : s.TypeIs (.ref I) "set_iterator" := ⟨_, hit, rfl⟩
    refine wpAny_pyIter_slot hT Fz.slot_ititer (wpAny_call_entry Fz.slot_ititer hT Fz.entry_ititer ?_ (Fz.args_ititer _))
    show wpAny _ _ (ret (.ref I)) _ _ s
    exact wpAny_pure ⟨_, rfl, "set_iterator", _, hT, Fz.slot_itnext.lookup, hQ⟩

inductive SsAt (X : Cx) (h : Heap) (Z : ZMap) (v : Value) (ks : List Nat) : Prop
  | mk (a : Addr) (ob : Obj) (e : v = .ref a) (hz : Z a = some ob) (hs : SSAt X h a ks)
theorem Ok.ssetAt {v : Value} {ks : List Nat} (o : Ok X s Z H) (r : Rep X Z v (.sset ks)) : SsAt X s.heap Z v ks := by
  cases r with
  | cont hz r => exact ⟨_, _, rfl, hz, SSAt.of (o.z _ _ hz) r⟩
theorem tIt_sset {ks : List Nat} {G : List D → Prop} (hh : A.handled = none) (h : ∀ ns : List Nat, ns.Perm ks → G (ns.map fun n : Nat => D.int n)) : tIt X A (.sset ks) H G := fun s Z v o r => by
  obtain ⟨a, ob, rfl, hz, S⟩ := o.ssetAt r
  obtain ⟨tok, ep, mask, finger, moves, ho, hm, hk⟩ := id S
  have hne : a ≠ s.heap.objs.size := ne_size ho
  refine wpAny_pyIter_slot S.fz Fz.slot_iter (wpAny_call_entry Fz.slot_iter S.fz Fz.entry_iter ?_ (Fz.args_iter _))
  refine wpAny_bind (m := Builtin.Frozenset.slot0 "__iter__" ⟨[.ref a], []⟩) (wpAny_pure ?_)
  refine wpAny_bind (sizeOf_small S ?_)
  refine wpAny_bind ?_
  unfold setDrawn
  refine wpAny_bind (wp_state ho hm hk ?_)
  dsimp only
  refine wpAny_bind (byText (wpAny_pure ?_))
  have hd : ∀ b : Bool, (!b && (!(tabOf mask finger moves (!X.bt) ks).plain && decide ((esOf tok ks).size > 1))) = false := fun b => by simp [tabOf]
  refine (show wpAny _ _ (if (!X.bt && (!(tabOf mask finger moves (!X.bt) ks).plain && decide ((esOf tok ks).size > 1))) = true then _ else _) _ _ _ from ?_)
  rw [hd]
  rw [if_neg (by decide)]
  refine wpAny_bind (wpAny_pure ?_)
  unfold setEpoch
  refine wpAny_bind (wpAny_bind (wp_state ho hm hk (wpAny_pure ?_)))
  obtain ⟨ns, e, p⟩ := perm_shape (tok := tok) (ks := ks) (ord_perm (X := X) (a := a) (ep := ep) (es := esOf tok ks))
  have k := fun b o (e : s.heap.get? b = some o) => Heap.get?_push_of_some ({ cls := .type "set_iterator", data := .fields #[rawInt 0, rawInt 0, .ref a, rawInt ks.length, rawInt ep] } : Obj) e
  have hI : (s.heap.push { cls := .type "set_iterator", data := .fields #[rawInt 0, rawInt 0, .ref a, rawInt ks.length, rawInt ep] }).get? s.heap.objs.size = some { cls := .type "set_iterator", data := .fields #[rawInt 0, rawInt 0, .ref a, rawInt ks.length, rawInt ep] } := Heap.get?_push_size _ rfl
  refine wpAny_bind (wpAny_newObj_type (wpAny_pure ⟨_, rfl, "set_iterator", _, ⟨_, hI, rfl⟩, Fz.slot_itnext.lookup, ?_⟩))
  refine ⟨ns.map fun n : Nat => D.int n, Ev.keeps (tk := s.toks) k, o.keeps (tk := s.toks) k, ⟨s.heap.objs.size, [s.heap.objs.size, a], [s.heap.objs.size], fun i v => ∃ h, (ordOf X a ep (esOf tok ks))[i]? = some (h, v),
    fun i h => i ≤ ks.length ∧ IsSetIter h s.heap.objs.size a (slotAt X.bt ks i) i ks.length ep ∧ h.get? a = some { cls := .type "frozenset", data := .set (esOf tok ks) ep (tabOf mask finger moves (!X.bt) ks) }, rfl, ?_, ⟨Nat.zero_le _, ?_, k _ _ ho⟩, ?_, ?_, ?_, ?_⟩, h ns p⟩
  · rw [List.length_map, p.length_eq]
    exact Walks.small hh hne hm hk
  · have : slotAt X.bt ks 0 = 0 := by unfold slotAt; split <;> rfl
    rw [this]; exact hI
  · rintro i v ⟨hv, hget⟩
    rw [← Array.getElem?_toList, e, List.getElem?_map] at hget
    obtain ⟨n, hn, e2⟩ := Option.map_eq_some_iff.mp hget
    injection e2 with _ e2
    subst e2
    exact ⟨.int n, by rw [List.getElem?_map, hn]; rfl, .int _ _⟩
  · intro b hb; rw [List.mem_singleton.mp hb]; exact get_size _
  · intro b hb
    rcases List.mem_cons.mp hb with rfl | hb
    · exact .inl (List.mem_singleton.mpr rfl)
    · rw [List.mem_singleton.mp hb]; exact .inr (by rw [hz]; simp)
  · rintro i h' ⟨_, st, _⟩ b hb
    rw [List.mem_singleton.mp hb]; exact has_of st
theorem t2_subS {ks js : List Nat} {Q : D → Hp → Prop} (h : Q (.sset (canon (ks.filter fun n => !js.contains n))) H) : t2 X A (binaryOp .Sub) (.sset ks) (.sset js) H Q := fun s Z v u o r r' => by
  obtain ⟨a, _, rfl, _, Sa⟩ := o.ssetAt r
  obtain ⟨b, _, rfl, _, Sb⟩ := o.ssetAt r'
  exact call_sub o Sa Sb h
theorem t2_orS {ks js : List Nat} {Q : D → Hp → Prop} (h : Q (.sset (canon (ks ++ js))) H) : t2 X A (binaryOp .BitOr) (.sset ks) (.sset js) H Q := fun s Z v u o r r' => by
  obtain ⟨a, _, rfl, _, Sa⟩ := o.ssetAt r
  obtain ⟨b, _, rfl, _, Sb⟩ := o.ssetAt r'
  exact call_or o Sa Sb h
theorem rich_eqS {a b : Addr} {ks js : List Nat} {Q : Value → Shared → Prop} (hu : A.units < cLine) (Sa : SSAt X s.heap a ks) (Sb : SSAt X s.heap b js) (h : Q (.bool (decide (ks = js))) s) : wpAny X.M A (richCompare .Eq (.ref a) (.ref b)) Q No s :=
  wpAny_richCompare_same_room (op := .Eq) Sa.fz Sb.fz Fz.slot_eq (call_eqS Sa Sb h) hu
theorem t2_neS {ks js : List Nat} {Q : D → Hp → Prop} (hu : A.units < cLine) (h : Q (.bool (!decide (ks = js))) H) : t2 X A (compareOp .NotEq) (.sset ks) (.sset js) H Q := fun s Z v u o r r' => by
  obtain ⟨a, _, rfl, _, Sa⟩ := o.ssetAt r
  obtain ⟨b, _, rfl, _, Sb⟩ := o.ssetAt r'
  exact wpAny_richCompare_same_room (op := .NotEq) Sa.fz Sb.fz Fz.slot_ne (call_neS Sa Sb (.now o (.bool _) h)) hu
end
end Mine

end

noncomputable section
open PySem PySem.W PySem.Calls PyProof.Rows
set_option maxHeartbeats 1000000
namespace Mine
section
variable {X : Cx} {A : Around} {s s' s'' s₀ : Shared} {Z Z' : ZMap} {H H' : Hp} {env : Env} {σ σ' : Sto}

inductive FGen (X : Cx) (h : Heap) (a : Addr) (xs : List Int) (n : Nat) : Prop
  | mk (es) (ep) (t) (ho : h.get? a = some { cls := .type "frozenset", data := .set es ep t }) (hel : ElemsOf (intKind X.prog X.w) es.toList) (hm : ∀ i, i ∈ xs ↔ ∃ e ∈ es.toList, (intKind X.prog X.w).is i e.2 = true) (hs : es.size ≤ n) (hf : t.fits es.size = true)

theorem storeG {a : Addr} {es es' : Array (Int × Value)} {ep : Nat} {t t' : SetTable} {xs : List Int} {n : Nat} {Q : Unit → Shared → Prop} (ho : s.heap.get? a = some { cls := .type "frozenset", data := .set es ep t }) (hel : ElemsOf (intKind X.prog X.w) es'.toList)
    (hmem : ∀ i, i ∈ xs ↔ ∃ e ∈ es'.toList, (intKind X.prog X.w).is i e.2 = true) (hs : es'.size ≤ n) (hf : t'.fits es'.size = true) (hn : n < scanBound)
    (h : ∀ h', h'.get? a = some { cls := .type "frozenset", data := .set es' (ep + 1) t' } → FGen X h' a xs n → Heap.SameBut a s.heap h' → Q () { s with heap := h' }) : wpAny X.M A (storeSet a es' t') Q No s := by
  have hg : (s.heap.update a (Obj.putSet es' t')).get? a = some { cls := .type "frozenset", data := .set es' (ep + 1) t' } := by
    rw [Heap.get?_update_self _ ho (by rw [putSet_of _ _ rfl]; rfl), putSet_of _ _ rfl]
  exact wpAny_storeSet_of ho rfl (h _ hg ⟨es', ep + 1, t', hg, hel, hmem, hs, hf⟩ (Heap.SameBut.update ..)) (fits_of_scanBound (Nat.lt_of_le_of_lt hs hn))

theorem add_gen {a : Addr} {xs : List Int} {n : Nat} {i : Int} {tk : Tok} {Q : Bool → Shared → Prop} (S : FGen X s.heap a xs n) (hn : n + 1 < scanBound)
    (h : ∀ b h', FGen X h' a (i :: xs) (n + 1) → Heap.SameBut a s.heap h' → Q b { s with heap := h' }) : wpAny X.M A (setAddHashed a (.int i tk) (hashInt i)) Q No s := by
  obtain ⟨es, ep, t, ho, hel, hmem, hsz, hf⟩ := S
  have hkey : (intKind X.prog X.w).is i (.int i tk) = true := intKind_is _ _ _ _
  have hb : es.size < scanBound := by omega
  unfold setAddHashed setAddHashedIn
  refine wpAny_holding (wpAny_bind (wpAny_setState_of ho rfl hf ?_))
  dsimp only
  rw [byScan_of rfl hb hel]
  simp only [↓reduceIte]
  unfold setAddByScan
  refine wpAny_bind (wpAny_bind (wpAny_rule (wpAny_bind (wpAny_setScan_of (knd := intKind X.prog X.w) hkey ho rfl hf hel ?_))))
  cases hr : List.findIdx? (fun e => (intKind X.prog X.w).is i e.2) es.toList with
  | some j =>
    dsimp only
    obtain ⟨hj, hpj, _⟩ := List.findIdx?_eq_some_iff_getElem.mp hr
    refine wpAny_pure (wpAny_pure (h false s.heap ⟨es, ep, t, ho, hel, fun k => ?_, by omega, hf⟩ (Heap.SameBut.refl ..)))
    rw [List.mem_cons, hmem]
    constructor
    · rintro (rfl | q)
      · exact ⟨_, List.getElem_mem hj, hpj⟩
      · exact q
    · exact .inr
  | none =>
    dsimp only
    have hperm := layNew_perm t es (hashInt i) (.int i tk)
    have hfits := layNew_fits t es (hashInt i) (.int i tk)
    have hgw : ∀ (b : Bool) {s₁ : Shared} {Q' : Unit → Shared → Prop}, Q' () s₁ → wpAny X.M A (match b with | true => rule "set.scan.the-table-gave-way" | false => pure ()) Q' No s₁ :=
      fun b s₁ Q' hq => by cases b <;> first | exact wpAny_pure hq | exact wpAny_rule hq
    generalize hL : layNew t es (hashInt i) (.int i tk) = L at hperm hfits
    show wpAny X.M A (match layNew t es (hashInt i) (.int i tk) with | (es, t, wasDummy, gave) => _) _ _ _
    rw [hL]
    obtain ⟨es1, t1, wasDummy, gave⟩ := L
    dsimp only at hperm hfits ⊢
    rw [Array.toList_push] at hperm
    have hel1 : ElemsOf (intKind X.prog X.w) es1.toList := (hel.push hkey rfl).perm hperm
    have hmem1 : ∀ k, k ∈ i :: xs ↔ ∃ e ∈ es1.toList, (intKind X.prog X.w).is k e.2 = true := fun k => by
      rw [List.mem_cons, hmem]
      constructor
      · rintro (rfl | ⟨e, he, q⟩)
        · exact ⟨_, hperm.mem_iff.mpr (List.mem_append_right _ (.head _)), hkey⟩
        · exact ⟨e, hperm.mem_iff.mpr (List.mem_append_left _ he), q⟩
      · rintro ⟨e, he, q⟩
        rcases List.mem_append.mp (hperm.mem_iff.mp he) with he | he
        · exact .inr ⟨e, he, q⟩
        · rw [List.mem_singleton] at he
          subst he
          exact .inl ((intKind X.prog X.w).inj _ _ _ q hkey)
    have hs1 : es1.size ≤ n + 1 := by
      have := hperm.length_eq
      rw [List.length_append, Array.length_toList, Array.length_toList] at this
      simp at this; omega
    refine wpAny_bind (hgw gave ?_)
    have tail : ∀ t2 : SetTable, t2.fits es1.size = true → wpAny X.M A (do
        storeSet a es1 t2
        if (!wasDummy && t2.tooFull) = true then do
          (match (relayAll t2 es1 (SetTable.grown es1.size)).2.2 with | true => rule "set.scan.the-table-gave-way" | false => pure ())
          storeSet a (relayAll t2 es1 (SetTable.grown es1.size)).1 (relayAll t2 es1 (SetTable.grown es1.size)).2.1
          pure (some true)
        else pure (some true)) (fun r s' => ∃ h', s' = { s with heap := h' } ∧ r = some true ∧ FGen X h' a (i :: xs) (n + 1) ∧ Heap.SameBut a s.heap h') No s := fun t2 hf2 => by
      refine wpAny_bind (storeG ho hel1 hmem1 hs1 hf2 hn fun h1 hg1 F1 hb1 => ?_)
      split
      · have hp := relayAll_perm t2 es1 (SetTable.grown es1.size)
        have hfr := relayAll_fits t2 es1 (SetTable.grown es1.size)
        refine wpAny_bind (hgw _ ?_)
        refine wpAny_bind (storeG (s := { s with heap := h1 }) (xs := i :: xs) (n := n + 1) hg1 (hel1.perm hp) (fun k => (hmem1 k).trans ⟨fun ⟨e, he, q⟩ => ⟨e, hp.mem_iff.mpr he, q⟩, fun ⟨e, he, q⟩ => ⟨e, hp.mem_iff.mp he, q⟩⟩) ?_ hfr hn fun h2 _ F2 hb2 => ?_)
        · rw [← Array.length_toList, hp.length_eq, Array.length_toList]; exact hs1
        · exact wpAny_pure ⟨h2, rfl, rfl, F2, hb1.trans hb2⟩
      · exact wpAny_pure ⟨h1, rfl, rfl, F1, hb1⟩
    have fin : ∀ r s', (∃ h', s' = { s with heap := h' } ∧ r = some true ∧ FGen X h' a (i :: xs) (n + 1) ∧ Heap.SameBut a s.heap h') → wpAny X.M A (match r with | some added => pure added | none => setAddHashedIn a (.int i tk) (hashInt i) 99999) Q No s' := by
      rintro r s' ⟨h', rfl, rfl, F, hb⟩
      exact wpAny_pure (h true h' F hb)
    split
    · refine wpAny_bind ?_
      rw [hashByValue_scannable 8 rfl]
      refine wpAny_pure ?_
      exact wpAny_mono (tail _ (by split; exact hfits; exact SetTable.fits_plain_off hfits)) fin fun _ _ f => f
    · refine wpAny_bind (wpAny_pure ?_)
      exact wpAny_mono (tail _ (by split; exact hfits; exact SetTable.fits_plain_off hfits)) fin fun _ _ f => f

/-- the loop that fills a set from a list -/
theorem update_loop {S I l : Addr} {items : Array Value} {P : Nat → Heap → Prop} {R : Result → Shared → Prop} (hh : A.handled = none) (hlI : l ≠ I) (hSI : S ≠ I) (hSl : S ≠ l)
    (hframe : ∀ i h h', P i h → (∀ o, h.get? S = some o → h'.get? S = some o) → P i h')
    (hstep : ∀ i (s' : Shared) v (Q : Bool → Shared → Prop), items[i]? = some v → P i s'.heap → (∀ b h' tk, P (i + 1) h' → Heap.SameBut S s'.heap h' → Q b { s' with heap := h', toks := tk }) → wpAny X.M A.in1 (setAdd S v) Q No s') :
    ∀ (k i : Nat) (s : Shared), items.size - i = k → i ≤ items.size → s.heap.IsListIter I l i → s.heap.IsList l items → P i s.heap →
      (∀ h' tk, P items.size h' → (∀ b o, b ∉ [S, I] → s.heap.get? b = some o → h'.get? b = some o) → R (.ok (.ret .none)) { s with heap := h', toks := tk }) →
      codeAny X.M A (.builtin "set.update.loop" ⟨[.ref S, .ref I], []⟩) R s := by
  have W := Walks.list (prog := X.prog) (w := X.w) (A := A.in1) hh I l hlI items
  intro k
  induction k with
  | zero =>
    intro i s hk hi hit hl hP hR
    have : i = items.size := by omega
    subst this
    refine codeAny_builtin PyProof.Rows.F.entry_set_update_loop ?_
    rw [Around.under_plainId PyProof.Rows.F.plain_set_update_loop _]
    show wpAny _ A.in1 (pyNext (.ref I) >>= _) _ _ s
    refine wpAny_bind (W.done s _ _ ⟨hit, hl⟩ fun h' tk hk' => ?_)
    show wpAny _ A.in1 (ret Value.none) _ _ _
    refine wpAny_pure (hR h' tk (hframe _ _ _ hP fun o e => hk' S o (by simpa using hSI) e) fun b o hb e => hk' b o (fun q => hb (by simp at q; simp [q])) e)
  | succ k ih =>
    intro i s hk hi hit hl hP hR
    have hlt : i < items.size := by omega
    refine codeAny_builtin PyProof.Rows.F.entry_set_update_loop ?_
    rw [Around.under_plainId PyProof.Rows.F.plain_set_update_loop _]
    show wpAny _ A.in1 (pyNext (.ref I) >>= _) _ _ s
    refine wpAny_bind (W.item i s _ _ hlt ⟨hit, hl⟩ fun v h1 tk1 hv ⟨hit1, hl1⟩ hk1 => ?_)
    show wpAny _ A.in1 (holding [v] (setAdd S v) >>= _) _ _ _
    refine wpAny_bind (wpAny_holding (wpAny_mono (hstep i { s with heap := h1, toks := tk1 } v (fun b s' => ∃ h' tk, s' = { s with heap := h', toks := tk } ∧ P (i + 1) h' ∧ Heap.SameBut S h1 h') hv
      (hframe _ _ _ hP fun o e => hk1 S o (by simpa using hSI) e) fun b h' tk p q => ⟨h', tk, rfl, p, q⟩) (fun b s' q => ?_) fun _ _ f => f.elim))
    obtain ⟨h2, tk2, rfl, P2, hb2⟩ := q
    have hit2 : h2.IsListIter I l (i + 1) := by obtain ⟨o, e, r⟩ := hit1; exact ⟨o, (hb2.2 I (fun q => hSI q.symm)).trans e, r⟩
    have hl2 : h2.IsList l items := by obtain ⟨o, e, r⟩ := hl1; exact ⟨o, (hb2.2 l (fun q => hSl q.symm)).trans e, r⟩
    refine wpAny_pure ⟨plainId_quiet PyProof.Rows.F.plain_set_update_loop _, ih (i + 1) { s with heap := h2, toks := tk2 } (by omega) hlt hit2 hl2 P2 fun h' tk p q => hR h' tk p fun b o hb e => ?_⟩
    refine q b o hb ?_
    have hbS : b ≠ S := fun q => hb (by simp [q])
    exact (hb2.2 b hbS).trans (hk1 b o (fun q => hb (by simp at q; simp [q])) e)

theorem fnew {l : Addr} {items : Array Value} {P : Nat → Heap → Prop} {Q : Value → Shared → Prop} (hh : A.handled = none) (hl : s.heap.PlainList l items)
    (h0 : ∀ o : Obj, SSAt X (s.heap.push o) s.heap.objs.size [] → P 0 (s.heap.push o)) (hframe : ∀ i h h', P i h → (∀ o, h.get? s.heap.objs.size = some o → h'.get? s.heap.objs.size = some o) → P i h')
    (hstep : ∀ (A' : Around) i (s' : Shared) v (Q : Bool → Shared → Prop), items[i]? = some v → P i s'.heap → (∀ b h' tk, P (i + 1) h' → Heap.SameBut s.heap.objs.size s'.heap h' → Q b { s' with heap := h', toks := tk }) → wpAny X.M A' (setAdd s.heap.objs.size v) Q No s')
    (hcls : ∀ i h, P i h → ∃ o, h.get? s.heap.objs.size = some o ∧ o.cls = .type "frozenset")
    (h : ∀ h' tk, P items.size h' → (∀ b o, s.heap.get? b = some o → h'.get? b = some o) → Q (.ref s.heap.objs.size) { s with heap := h', toks := tk }) :
    wpAny X.M A (call (.type "frozenset") [.ref l]) Q No s := by
  refine callType_newIn Fz.called (by decide) (Fz.typeCall_1 _) (Fz.newCall_1 _) (fun obj => F.args_object_init_2 obj _) Fz.entry_new (S := fun A R s => wpAny X.M A.in1 (Builtin.«frozenset.__new__» ⟨[.type "frozenset", .ref l], []⟩) (fun fin s' => match fin with | .done f => R (.ok f) s' | .again c' => c'.quiet = true ∧ codeAny X.M A c' R s') (fun e s' => R (.error e) s') s) (fun _ _ _ h => h) ?_
  obtain ⟨n, ho⟩ := hl
  have hT : s.TypeIs (.ref l) "list" := ⟨_, ho, rfl⟩
  have hsub := Fz.called.sub
  have hinit := Fz.slot_init.lookup
  have hmh := Fz.madeHere
  unfold Builtin.«frozenset.__new__»
  generalize hNF : Builtin.Frozenset.newFrom = NF
  wp_walk using wpAny_typeOf hT
  subst hNF
  refine wpAny_mono (Q := fun v s' => ∃ h' tk, s' = { s with heap := h', toks := tk } ∧ v = .ref s.heap.objs.size ∧ (∃ o, h'.get? s.heap.objs.size = some o ∧ o.cls = .type "frozenset") ∧ Q v s') (E := No) ?_ (fun v s' q => ?_) fun _ _ f => f.elim
  rotate_left
  · obtain ⟨h', tk, rfl, rfl, ⟨o, e1, e2⟩, q⟩ := q
    exact wpAny_pure ⟨⟨o, e1, e2⟩, q⟩
  unfold Builtin.Frozenset.newFrom
  refine wpAny_bind (new_small fun o S0 => ?_)
  have k0 := fun c ob (e : s.heap.get? c = some ob) => Heap.get?_push_of_some o e
  have hr : s.heap.get? s.heap.objs.size = none := get_size _
  have hSl : s.heap.objs.size ≠ l := fun e => by rw [e, ho] at hr; cases hr
  refine wpAny_bind (wpAny_pure (wpAny_bind (wpAny_holding ?_)))
  unfold Builtin.Frozenset.updateFrom Builtin.Frozenset.isAnySet
  have ho1 := k0 _ _ ho
  have hT1 : Shared.TypeIs { s with heap := s.heap.push o } (.ref l) "list" := ⟨_, ho1, rfl⟩
  refine wpAny_bind (wpAny_bind (wpAny_isInstance hT1 PySem.F.sub_list_set (wpAny_isInstance hT1 PySem.F.sub_list_frozenset ?_)))
  rw [if_neg Bool.false_ne_true]
  refine wpAny_bind (wpAny_typeOf hT1 ?_)
  rw [if_neg (by decide)]
  have hl1 : (s.heap.push o).IsList l items := ⟨_, ho1, rfl, n, rfl⟩
  refine wpAny_bind (wpAny_pyIter_list (s := { s with heap := s.heap.push o }) hl1 ?_)
  have k1 := fun c ob (e : (s.heap.push o).get? c = some ob) => Heap.get?_push_of_some ({ cls := .type "list_iterator", data := .fields #[.ref l, .int 0 0] } : Obj) e
  have hsz : (s.heap.push o).objs.size = s.heap.objs.size + 1 := Heap.size_push ..
  have hlI : l ≠ (s.heap.push o).objs.size := by rw [hsz]; exact Nat.ne_of_lt (Nat.lt_succ_of_lt (Heap.lt_size ho))
  have hSI : s.heap.objs.size ≠ (s.heap.push o).objs.size := by rw [hsz]; exact Nat.ne_of_lt (Nat.lt_succ_self _)
  refine wpAny_bind (wpAny_runValue (update_loop (A := A.in1.in1) (P := P) (S := s.heap.objs.size) (I := (s.heap.push o).objs.size) (l := l) (items := items) (by exact hh) hlI hSI hSl hframe (fun i s' v Q hv hp q => hstep _ i s' v Q hv hp q) (items.size - 0) 0 _ rfl (Nat.zero_le _)
    ⟨_, Heap.get?_push_size _ rfl, rfl, rfl⟩ ⟨_, k1 _ _ ho1, rfl, n, rfl⟩ (hframe _ _ _ (h0 o S0) fun ob e => k1 _ _ e) fun h' tk p q => ?_))
  have kall : ∀ b ob, s.heap.get? b = some ob → h'.get? b = some ob := fun b ob e => by
    refine q b ob ?_ (k1 _ _ (k0 _ _ e))
    have := Heap.lt_size e
    simp only [List.mem_cons, List.not_mem_nil, or_false, not_or]
    exact ⟨Nat.ne_of_lt this, by rw [hsz]; exact Nat.ne_of_lt (Nat.lt_succ_of_lt this)⟩
  exact wpAny_pure (wpAny_pure ⟨h', tk, rfl, rfl, hcls _ _ p, h h' tk p kall⟩)
theorem fnew0 {Q : Value → Shared → Prop} (h : ∀ o : Obj, SSAt X (s.heap.push o) s.heap.objs.size [] → Q (.ref s.heap.objs.size) { s with heap := s.heap.push o }) : wpAny X.M A (call (.type "frozenset") []) Q No s := by
  refine callType_newIn Fz.called (by decide) Fz.typeCall_0 Fz.newCall_0 Fz.args_init1 Fz.entry_new (S := fun A R s => wpAny X.M A.in1 (Builtin.«frozenset.__new__» ⟨[.type "frozenset"], []⟩) (fun fin s' => match fin with | .done f => R (.ok f) s' | .again c' => c'.quiet = true ∧ codeAny X.M A c' R s') (fun e s' => R (.error e) s') s) (fun _ _ _ h => h) ?_
  have hsub := Fz.called.sub
  have hinit := Fz.slot_init.lookup
  have hmh := Fz.madeHere
  unfold Builtin.«frozenset.__new__»
  generalize hNF : newSet = NF
  wp_walk
  subst hNF
  refine wpAny_mono (new_small (Q := fun v s' => ∃ T : s'.TypeIs v "frozenset", Q v s') fun o S0 => ⟨S0.fz, h o S0⟩) (fun v s' ⟨T, q⟩ => ?_) fun _ _ f => f.elim
  exact wpAny_pure ⟨T, q⟩

theorem tC_fz0 {Q : D → Hp → Prop} (h : Q (.sset []) H) : tC X A (.type "frozenset") [] H Q := fun s Z vs o r => by
  cases r
  refine fnew0 fun ob S0 => ?_
  obtain ⟨ob', ho, hr⟩ := S0.orep (X := X) (Z := Z)
  exact PE.newZ (tk := s.toks) o (fun c ob e => Heap.get?_push_of_some _ e) (get_size _) o.big ho hr h
theorem tC_fzS {ns : List Nat} {Q : D → Hp → Prop} (hh : A.handled = none) (hn : ∀ n ∈ ns, n < 3) (h : Q (.sset (canon ns)) H) : tC X A (.type "frozenset") [.lst (ns.map fun n : Nat => D.int n)] H Q := fun s Z vs o r => by
  (obtain ⟨v, hv, r1⟩ := r.one); clear r; subst hv; have r := r1
  obtain ⟨l, items, rfl, hl, rs⟩ := o.listAt r .z
  have hlen : items.size = ns.length := by have := rs.length; rw [Array.length_toList, List.length_map] at this; exact this
  refine fnew (P := fun i h => SSAt X h s.heap.objs.size (canon (ns.take i))) hh hl (fun ob S0 => S0) (fun i h h' p q => p.keeps q) (fun A' i s' v Q hv hp q => ?_) (fun i h p => ?_) fun h' tk p k => ?_
  · obtain ⟨d, hd, rv⟩ := rs.getV (i := i) (v := v) (by simpa using hv)
    rw [List.getElem?_map] at hd
    obtain ⟨n, hn', e⟩ := Option.map_eq_some_iff.mp hd
    subst e
    obtain ⟨t, rfl⟩ := rv.toInt
    have hlt : n < 3 := hn n (List.mem_of_getElem? hn')
    unfold setAdd
    refine wpAny_holding (wpAny_bind ((intKind X.prog X.w).pyHash (k := (n : Int)) (intKind_is _ _ _ _) ?_))
    have hh' : (intKind X.prog X.w).hash (n : Int) = n := hash_small hlt
    rw [hh']
    refine add_small (s := { s' with toks := s'.toks + 1 }) hlt hp fun b h2 S2 hb2 => q b h2 _ ?_ hb2
    rw [canon_congr (l' := n :: canon (ns.take i))]
    · exact S2
    · intro m hm
      rw [List.take_add_one, hn', List.mem_append, List.mem_cons, mem_canon]
      simp only [Option.toList_some, List.mem_singleton]
      constructor
      · rintro (e | e)
        · exact .inr ⟨e, hm⟩
        · exact .inl e
      · rintro (e | ⟨e, _⟩)
        · exact .inr e
        · exact .inl e
  · obtain ⟨_, _, _, _, _, ho, _⟩ := p; exact ⟨_, ho, rfl⟩
  · rw [hlen, List.take_length] at p
    obtain ⟨ob', ho, hr⟩ := p.orep (X := X) (Z := Z)
    exact PE.newZ o k (get_size _) o.big ho hr h
theorem tC_fzL {is : List Int} {Q : D → Hp → Prop} (hh : A.handled = none) (hz : is.length ≤ 1000) (h : Q (.fset is) H) : tC X A (.type "frozenset") [.lst (is.map .int)] H Q := fun s Z vs o r => by
  (obtain ⟨v, hv, r1⟩ := r.one); clear r; subst hv; have r := r1
  obtain ⟨l, items, rfl, hl, rs⟩ := o.listAt r .z
  have hlen : items.size = is.length := by have := rs.length; rw [Array.length_toList, List.length_map] at this; exact this
  refine fnew (P := fun i h => i ≤ items.size ∧ ∃ xs, (∀ k, k ∈ xs ↔ k ∈ is.take i) ∧ FGen X h s.heap.objs.size xs i) hh hl (fun ob S0 => ?_) (fun i h h' p q => ?_) (fun A' i s' v Q hv hp q => ?_) (fun i h p => ?_) fun h' tk p k => ?_
  · obtain ⟨tok, ep, mask, finger, moves, ho, hm, hk⟩ := S0
    exact ⟨Nat.zero_le _, [], fun k => by simp, ⟨_, _, _, ho, els_small hk, fun i => by simp [esOf], Nat.le_refl _, tabOf_fits hk hm⟩⟩
  · obtain ⟨h0, xs, hx, es, ep, t, ho, h1, h2, h3, h4⟩ := p
    exact ⟨h0, xs, hx, ⟨es, ep, t, q _ ho, h1, h2, h3, h4⟩⟩
  · obtain ⟨d, hd, rv⟩ := rs.getV (i := i) (v := v) (by simpa using hv)
    rw [List.getElem?_map] at hd
    obtain ⟨n, hn', e⟩ := Option.map_eq_some_iff.mp hd
    subst e
    obtain ⟨t, rfl⟩ := rv.toInt
    obtain ⟨h0, xs, hx, F⟩ := hp
    have hlt : i < items.size := (Array.getElem?_eq_some_iff.mp hv).1
    unfold setAdd
    refine wpAny_holding (wpAny_bind ((intKind X.prog X.w).pyHash (k := n) (intKind_is _ _ _ _) ?_))
    refine add_gen (s := { s' with toks := s'.toks + 1 }) F (by unfold scanBound; omega) fun b h2 F2 hb2 => q b h2 _ ⟨hlt, _, fun k => ?_, F2⟩ hb2
    rw [List.take_add_one, hn', List.mem_append, List.mem_cons, hx]
    simp only [Option.toList_some, List.mem_singleton]
    exact ⟨fun q => q.elim .inr .inl, fun q => q.elim .inr .inl⟩
  · obtain ⟨_, _, _, _, _, _, ho, _⟩ := p; exact ⟨_, ho, rfl⟩
  · obtain ⟨_, xs, hx, es, ep, t, ho, hel, hmem, hsz, hf⟩ := p
    rw [hlen, List.take_length] at hx
    exact PE.newZ o k (get_size _) o.big ho (.fset rfl ⟨hel, fun i => (hx i).symm.trans (hmem i), by omega, hf⟩) h
/-- in, of a set of numbers -/
theorem t2_inF {kd : D} {i : Int} {is : List Int} {Q : D → Hp → Prop} (ek : kd = .int i) (h : Q (.bool (is.contains i)) H) : t2 X A (compareOp .In) kd (.fset is) H Q := fun s Z v u o r r' => by
  subst ek
  obtain ⟨t, rfl⟩ := r.toInt
  cases r' with
  | @cont a ob _ hz r' =>
    cases r' with
    | @fset _ es ep tb _ e hs =>
      have ho := o.z _ _ hz
      subst e
      have hT : s.TypeIs (.ref a) "frozenset" := ⟨_, ho, rfl⟩
      show wpAny _ _ (do return Value.bool (← contains (.ref a) (.int i t))) _ _ s
      refine wpAny_bind (wpAny_contains_slot hT PySem.W.FB.slot_frozenset_contains (wpAny_call_entry PySem.W.FB.slot_frozenset_contains hT PySem.W.FB.entry_frozenset_contains ?_ (PySem.W.FB.args_frozenset_contains_2 _ _)))
      unfold Builtin.«frozenset.__contains__» Builtin.Frozenset.oneOther
      simp only [List.isEmpty_nil, bind_assoc]
      unfold Builtin.Frozenset.addrOf Builtin.Frozenset.withSetAsKey setContains
      refine wpAny_bind (wpAny_pure ?_)
      try dsimp only
      refine wpAny_bind (wpAny_pure ?_)
      try dsimp only
      refine wpAny_bind (wpAny_tryCatch (wpAny_holding (wpAny_bind ((intKind X.prog X.w).pyHash (k := i) (intKind_is _ _ _ _) ?_))))
      refine wpAny_bind (setFind_any (knd := intKind X.prog X.w) (k := i) (S := fun k => is.contains k) (s := { s with toks := s.toks + 1 }) (intKind_is _ _ _ _) rfl ho rfl hs.elems (fun k => by rw [List.contains_iff_mem]; exact hs.mem k) (by have := hs.bound; unfold scanBound; omega) hs.fits fun r hr => ?_)
      refine wpAny_pure ?_
      show wpAny _ _ (ret (Value.bool r.isSome)) _ _ _
      rw [hr]
      exact wpAny_pure ⟨_, rfl, wpAny_truthy_bool (wpAny_pure (.tok _ o (.bool _) h))⟩
end
end Mine

end

noncomputable section
open PySem PySem.W PySem.Calls PyProof.Rows
set_option maxHeartbeats 1000000
namespace Mine
section
variable {X : Cx} {A : Around} {s s' s'' s₀ : Shared} {Z Z' : ZMap} {H H' : Hp} {env : Env} {σ σ' : Sto}

theorem sN_loc {x : Str} {d : D} {v : Value} {Q : Unit → Shared → Prop} (hl : env.kindOf x = some .local) (hc : env.cells.lookup x = none) (i : Inv X s Z H env σ) (r : Rep X Z v d)
    (h : ∀ h' tk, Inv X { s with heap := h', toks := tk } Z H env (sput σ x d) → Ev s Z H (ownA env) { s with heap := h', toks := tk } Z H → Q () { s with heap := h', toks := tk }) : wpAny X.M A (storeName env x v) Q No s := by
  obtain ⟨m, hn, hm⟩ := i.loc
  have ho := i.own env.locals (.inl rfl)
  refine wpAny_storeName_local hl hn (fun h' hn' hs => ?_) (by rw [i.eok.kind]; rfl)
  have k : ∀ b o, b ∉ [env.locals] → s.heap.get? b = some o → h'.get? b = some o := fun b o hb e => (hs.2 b (by simpa using hb)).trans e
  refine h h' _ ⟨i.ok.wr (wr := [env.locals]) (fun b hb => by rw [List.mem_singleton.mp hb]; exact ho) k, i.eok, ⟨_, hn', fun y hy => ?_⟩, fun y cc hy => ?_, i.own⟩
    ⟨⟨_, _, rfl⟩, fun a o e _ hO => k a o (fun q => hO (.inl (List.mem_singleton.mp q))) e, fun a e => ?_, .refl _, fun _ e _ _ => e, fun _ e _ => e⟩
  · unfold sput
    split
    · exact .some r
    · exact hm y hy
  · obtain ⟨ov, hv, hr⟩ := i.cel y cc hy
    refine ⟨ov, hv.sameBut hs (i.eok.apart y cc hy), ?_⟩
    unfold sput
    split
    · rename_i q; subst q; rw [hc] at hy; cases hy
    · exact hr
  · by_cases q : a = env.locals
    · subst q; obtain ⟨o', _, _, e', _⟩ := hn'; exact absurd e (by show h'.get? env.locals ≠ none; rw [e']; simp)
    · rw [← hs.2 a q]; exact e

/-- a, b = (.., ..), two names of the frame -/
theorem tX_Swap {x y : Str} {px py : Pos} {e1 e2 : Expr} {k k2 : Nat} {tpos vpos pos : Pos} {Q : Fl → Sto → Hp → Prop} (hh : A.handled = none) (hx : env.kindOf x = some .local) (hcx : env.cells.lookup x = none) (hy : env.kindOf y = some .local) (hcy : env.cells.lookup y = none)
    (hp1 : noStar e1 = true) (hp2 : noStar e2 = true)
    (h : tE X A env e1 σ H (fun d1 H₁ => tE X A env e2 σ H₁ (fun d2 H₂ => Q .next (sput (sput σ y d2) x d1) H₂)))
    (hs : swapsWithSole [.Tuple [.Name x px, .Name y py] k tpos] (.Tuple [e1, e2] k2 vpos) pos.line env = pure false := by rfl)
    (hw : swappedStores [.Tuple [.Name x px, .Name y py] k tpos] (.Tuple [e1, e2] k2 vpos) env = pure (some [x, y]) := by rfl) :
    tX X A env (.Assign [.Tuple [.Name x px, .Name y py] k tpos] (.Tuple [e1, e2] k2 vpos) pos) σ H Q := fun s Z i => by
  have t1 : tE X A env (.Tuple [e1, e2] k2 vpos) σ H (fun d H₂ => ∃ d1 d2, d = .tup [d1, d2] ∧ Q .next (sput (sput σ y d2) x d1) H₂) := by
    refine tE_Tuple (by simp [hp1, hp2]) ?_
    refine tL_cons (h.mono fun d1 H₁ q => tL_cons (q.mono fun d2 H₂ q => tL_nil ⟨by rw [sizeLine_eq]; simp, d1, d2, rfl, q⟩))
  refine Assign_Tuple_swapped (names := [x, y]) (wpAny_mono (t1 s Z i) (fun v s₁ p => ?_) fun _ _ f => f) hs hw
  obtain ⟨Z₁, H₁, d, e₁, o₁, r₁, d1, d2, rfl, q⟩ := p
  obtain ⟨l, vs, rfl, ht, rs⟩ := o₁.tupAt r₁
  have hsz : vs.size = 2 := by have := rs.length; rw [Array.length_toList] at this; exact this
  have hI : s₁.heap.IsTuple l vs := by obtain ⟨o, ho, hc, n, hd⟩ := ht; exact ⟨o, ho, hc, n, hd⟩
  show wpAny _ _ (unpackItems (.ref l) 2 none) _ _ _
  rw [← hsz]
  refine wpAny_unpackItems_tuple hh hI fun h' he => ?_
  have kk : ∀ b o, s₁.heap.get? b = some o → h'.get? b = some o := fun b o e => he b o (Nat.ne_of_lt (Heap.lt_size e)) e
  have e₂ : Ev s₁ Z₁ H₁ nil { s₁ with heap := h', toks := s₁.toks } Z₁ H₁ := Ev.keeps kk
  have i₂ := (i.step e₁ o₁).step e₂ (o₁.keeps (tk := s₁.toks) kk)
  have e12 := e₁.trans e₂
  obtain ⟨v1, v2, hvs, ra, rb⟩ := rs.two
  rw [hvs]
  show wpAny _ _ (assignInOrder [bindName env y, bindName env x] [v2, v1]) _ _ _
  refine wpAny_assignInOrder_more (wpAny_bindName (sN_loc hy hcy i₂ rb fun h3 tk3 i₃ e₃ => ?_))
  refine wpAny_assignInOrder_more (wpAny_bindName (sN_loc hx hcx i₃ (ra.mono (ZLe.refl _)) fun h4 tk4 i₄ e₄ => ?_))
  exact wpAny_assignInOrder_none ⟨Z₁, H₁, _, .next, e12.any.trans (e₃.trans e₄), i₄, .next, q⟩

/-- x = [elt for y in iter if ..], a name of the frame -/
theorem tX_AssignComp {elt iter : Expr} {x y : Str} {px py : Pos} {ifs : List Expr} {scope : Scope} {pos cpos : Pos} {Q : Fl → Sto → Hp → Prop} (hy : env.kindOf y = some .local) (hcy : env.cells.lookup y = none)
    (h : tE X A env iter σ H (fun d H₁ => tIt X A d H₁ (fun ds => ds.length ≤ sizeLine ∧ ∀ C, LC X A (cEnv scope env C) x ifs elt (cSto scope env σ) (fun acc H₂ => acc.length ≤ ds.length → Q .next (sput σ y (.lst acc)) H₂) ds [] H₁)))
    (hk : scope.kind = .function) (hfree : ∀ y ∈ scope.names, y.2 = .free → (env.cells.lookup y.1).isSome = true) (hcell : ∀ y ∈ scope.names, y.2 ≠ .cell) (hnames : ∀ y ∈ scope.names, y.2 = .local → scope.names.lookup y.1 = some .local) (hx : scope.names.lookup x = some .local)
    (hloc : ∀ C x, (cEnv scope env C).kindOf x = some .local → (clOf scope env [] scope.names).lookup x = none)
    (hsw : swapsWith (.ListComp elt [⟨.Name x px, iter, ifs, 0⟩] scope cpos) (some (.Name y py)) pos.line env = pure true := by rfl) (hs : ∀ x, foldedSetIterable iter env x = pure x := by intro _; rfl) :
    tX X A env (.Assign [.Name y py] (.ListComp elt [⟨.Name x px, iter, ifs, 0⟩] scope cpos) pos) σ H Q := fun s Z i => by
  rw [exec_Assign_Name_used y py _ pos hsw]
  refine wpAny_bind (wpAny_standAt (wpAny_bind ?_))
  have key : wpAny X.M A (comprehension (.ListComp elt [⟨.Name x px, iter, ifs, 0⟩] scope cpos) scope env (firstIterPos [⟨.Name x px, iter, ifs, 0⟩] cpos) (newList []) false (eval iter env) (some (assign (.Name y py) env))) (fun _ s' => PS X s Z H env Q .next s') No s := by
    refine wpAny_comprehension_free (use := some (assign (.Name y py) env)) (Q := fun _ s' => PS X s Z H env Q .next s') rfl hs (closureFor_of hfree) hk hnames (wpAny_mono (h s Z i) (fun xv s₁ p => ?_) fun _ _ f => f)
    obtain ⟨Z₁, H₁, d, e₁, o₁, r₁, q₁⟩ := p
    refine wpAny_mono (q₁ s₁ Z₁ xv o₁ r₁) (fun it s₂ p => ?_) fun _ _ f => f
    obtain ⟨ds, e₂, o₂, it_, hz, q₂⟩ := p
    refine comp_block (RR := fun acc C => compPost X.M A No (some (assign (.Name y py) env)) (fun _ s' => PS X s Z H env Q .next s') acc C) hk hcell hx hloc (i.step e₁ o₁) e₂ o₂ it_ hz q₂ fun Dl C s' Z' H' acc ev ok ⟨vs, hl, rs⟩ hD hC hDC ⟨m, hm⟩ hlen q => ?_
    obtain ⟨n, hol⟩ := hl
    have ok2 := ok.adopt hol (.lst rfl rs) hD.1 hD.2.2.1 hD.2.2.2.2
    have ev2 : Ev s₁ Z₁ H₁ nil s' Z' (hput H' Dl (.lst acc)) := ev.adopt hD.2.2.2.1
    obtain ⟨o3, ho3, r3, hz3, ok3⟩ := ok2.freeze hput_self
    have hz3' := hz3
    rw [hdel_hput hD.2.1] at ok3
    have ev3 : Ev s₁ Z₁ H₁ nil s' (zput Z' Dl o3) H' := by
      have := ev2.trans (Ev.freeze (O := nil) (o := o3) hput_self hz3)
      rwa [hdel_hput hD.2.1] at this
    have i3 := (i.step e₁ o₁).step ev3 ok3
    show wpAny _ _ (assign (.Name y py) env (.ref Dl)) _ _ _
    refine wpAny_assign_Name (sN_loc hy hcy i3 (d := .lst acc) (.cont zput_self (r3.mono (zput_le hz3))) fun h4 tk4 i4 e4 => ?_)
    have hCne : C ≠ env.locals := fun e => by
      have := i.has (σ := σ) (.inl rfl)
      have h1 := (i.step e₁ o₁).has (.inl rfl)
      rw [← e] at h1; exact h1 hC.2.2.2
    have hm4 : ∃ m, h4.Ns C m := by
      obtain ⟨oc, es, ep, hoc, r⟩ := hm
      refine ⟨m, oc, es, ep, e4.keep C oc hoc hC.2.1 (fun hO => ?_), r⟩
      exact (i.step e₁ o₁).has hO hC.2.2.2
    obtain ⟨m4, hm4⟩ := hm4
    refine ⟨m4, hm4, fun h5 hsb => ?_⟩
    have k5 : ∀ b o, b ∉ [C] → h4.get? b = some o → h5.get? b = some o := fun b o hb e => hsb.extBut b o (by simpa using hb) e
    have zC : zput Z' Dl o3 C = none := by unfold zput; rw [if_neg (Ne.symm hDC)]; exact hC.1
    have i5 : Inv X { s' with heap := h5, toks := tk4 } (zput Z' Dl o3) H' env (sput σ y (.lst acc)) := i4.wr (wr := [C]) (fun b hb => by
      rw [List.mem_singleton.mp hb]; exact ⟨zC, hC.2.1, hC.2.2.1, fun hO => (i.step e₁ o₁).has hO hC.2.2.2⟩) k5
    have e5 : Ev s₁ Z₁ H₁ (ownA env) { s' with heap := h5, toks := tk4 } (zput Z' Dl o3) H' := (ev3.any.trans e4).wr (wr := [C]) (fun b hb => by rw [List.mem_singleton.mp hb]; exact hC.2.2.2) k5
    exact ⟨_, _, _, .next, e₁.any.trans e5, i5, .next, q hlen⟩
  rw [arm_evalThenUse_ListComp]
  exact wpAny_bind (wpAny_mono key (fun _ s' p => wpAny_pure (wpAny_pure p)) fun _ _ f => f)

/-- a, b = [.., ..] -/
theorem draw_list {I l : Addr} {items : Array Value} (hlI : l ≠ I) {Q : List Value → Shared → Prop} : ∀ (n i : Nat) (s : Shared), i + n ≤ items.size → s.heap.IsListIter I l i → s.heap.IsList l items →
    (∀ h', h'.IsListIter I l (i + n) → Heap.SameBut I s.heap h' → Q ((items.toList.drop i).take n) { s with heap := h' }) → wpAny X.M A (draw (.ref I) n) Q No s
  | 0, i, s, _, hit, _, hQ => by
    unfold draw
    have := hQ s.heap hit (Heap.SameBut.refl ..)
    rw [List.take_zero] at this
    exact wpAny_pure this
  | n + 1, i, s, hn, hit, hl, hQ => by
    unfold draw
    have hlt : i < items.size := by omega
    refine wpAny_bind (wpAny_pyNext_list_item hit hl (x := items[i]) (by simp [hlt]) fun h1 hit1 hs1 => ?_)
    dsimp only
    refine wpAny_bind (wpAny_holding (draw_list hlI n (i + 1) { s with heap := h1 } (by omega) hit1 (hl.extBut hs1.extBut hlI) fun h2 hit2 hs2 => wpAny_pure ?_))
    have := hQ h2 (by rw [show i + (n + 1) = i + 1 + n by omega]; exact hit2) (hs1.trans hs2)
    rw [List.drop_eq_getElem_cons (by simpa using hlt), List.take_succ_cons] at this
    simpa using this
theorem tA_lst {ts : List Expr} {k : Nat} {pos : Pos} {d : D} {ds : List D} {Q : Sto → Hp → Prop} (hh : A.handled = none) (ha : At H d (.lst ds)) (hs : ts.all noStar = true) (hn : ts.length = ds.length) (h : tAs X A env ts ds σ H Q) :
    tA X A env (.Tuple ts k pos) d σ H Q := fun s Z v i r => by
  obtain ⟨l, vs, rfl, hl, rs⟩ := i.ok.listAt r ha
  have hl := hl.isList
  have hsz : vs.size = ds.length := by rw [← rs.length, Array.length_toList]
  rw [arm_assign_Tuple]
  refine wpAny_bind (wpAny_standAt ?_)
  unfold unpack
  rw [(assignEach_len hs).2, (assignEach_len hs).1]
  have hlt : l ≠ s.heap.objs.size := Nat.ne_of_lt (by obtain ⟨_, ho, _⟩ := hl; exact Heap.lt_size ho)
  refine wpAny_bind (wpAny_holding ?_)
  unfold unpackItems
  refine wpAny_bind ?_
  unfold notIterableAtAll
  refine wpAny_bind (wpAny_specialOf hl.typeIs slot_list_iter.lookup ?_)
  refine wpAny_pure ?_
  simp only [Bool.false_eq_true, if_false]
  refine wpAny_bind (wpAny_holding (wpAny_pyIter_list hl ?_))
  have k0 := fun b o (e : s.heap.get? b = some o) => Heap.get?_push_of_some ({ cls := .type "list_iterator", data := .fields #[.ref l, .int 0 0] } : Obj) e
  refine wpAny_bind (wpAny_holding (draw_list hlt ts.length 0 _ (by omega) ⟨_, Heap.get?_push_size _ rfl, rfl, rfl⟩ (hl.push _) fun h1 hit1 hs1 => ?_))
  have hall : (vs.toList.drop 0).take ts.length = vs.toList := by
    rw [List.drop_zero]; exact List.take_of_length_le (by rw [Array.length_toList]; omega)
  rw [hall, if_neg (by rw [Array.length_toList]; omega)]
  have hl1 : h1.IsList l vs := (hl.push _).extBut hs1.extBut hlt
  refine wpAny_bind (wpAny_holding (wpAny_pyNext_list_end hh hit1 hl1 (by simp; omega) fun h2 he2 => ?_))
  simp only [Option.isSome_none, Bool.false_eq_true, if_false]
  refine wpAny_pure ?_
  have kk : ∀ b o, s.heap.get? b = some o → h2.get? b = some o := fun b o e => he2 b o (Nat.ne_of_lt (Heap.lt_size e)) ((hs1.2 b (Nat.ne_of_lt (Heap.lt_size e))).trans (k0 b o e))
  have e₁ : Ev s Z H nil { s with heap := h2, toks := s.toks } Z H := Ev.keeps kk
  exact wpAny_mono (assign_tAs hs h (i.step e₁ (i.ok.keeps (tk := s.toks) kk)) rs) (fun _ s₂ p => p.trans e₁.any) fun _ _ f => f
end
end Mine

end

noncomputable section
open PySem PySem.W PySem.Calls PyProof.Rows
set_option maxHeartbeats 1000000
namespace Mine
section
variable {X : Cx} {A : Around} {s s' s'' s₀ : Shared} {Z Z' : ZMap} {H H' : Hp} {env : Env} {σ σ' : Sto}

theorem Ok.adoptZ {o : Obj} {a : Addr} (i : Ok X s Z H) (ho : s.heap.get? a = some o) (hz : Z a = none) (hh : H a = none) (hl : sysModules < a) : Ok X s (zput Z a o) H := by
  refine ⟨i.base, fun b o' e => ?_, fun b d e => let ⟨o', ho', r⟩ := i.h b d e; ⟨o', ho', r.mono (zput_le hz)⟩, fun b hb => ⟨?_, (i.sep b hb).2⟩, fun b hb => ?_⟩
  · unfold zput at e; split at e
    · rename_i q; subst q; cases e; exact ho
    · exact i.z b o' e
  · unfold zput; split
    · rename_i q; subst q; exact absurd hh hb
    · exact (i.sep b hb).1
  · by_cases q : b = a
    · subst q; exact hl
    · unfold zput at hb; rw [if_neg q] at hb; exact i.low b hb
theorem Ev.adoptZ {O : Addr → Prop} {s₁ : Shared} {Z₁ : ZMap} {H₁ : Hp} {a : Addr} {o : Obj} (e : Ev s₁ Z₁ H₁ O s Z H) (hz : Z a = none) (hn : s₁.heap.get? a = none) : Ev s₁ Z₁ H₁ O s (zput Z a o) H :=
  ⟨e.same, e.keep, e.grow, e.zle.trans (zput_le hz), fun b h1 h2 h3 => by unfold zput; split; (rename_i q; subst q; exact absurd hn h3); exact e.znew b h1 h2 h3, e.hnew⟩

/-- an iterator that hands out tuples -/
inductive ItT (X : Cx) (A : Around) (s₀ : Shared) (it : Value) (s : Shared) (Z : ZMap) (dss : List (List D)) : Prop
  | mk (I) (fp) (wr) (P) (St) (Mid) (e : it = .ref I) (W : WalksT X.prog X.w A I fp wr dss.length P St Mid) (hst : St 0 s.heap) (hP : ∀ i vals, P i vals → ∃ ds, dss[i]? = some ds ∧ Reps X Z vals.toList ds)
    (hwr : ∀ b ∈ wr, s₀.heap.get? b = none) (hfp : ∀ b ∈ fp, b ∈ wr ∨ Z b ≠ none) (hhas : ∀ i h', St i h' → ∀ b ∈ wr, h'.get? b ≠ none)
inductive PT (X : Cx) (A : Around) (s : Shared) (Z : ZMap) (H : Hp) (G : List (List D) → Hp → Prop) (it : Value) (s₁ : Shared) : Prop
  | mk (s₀ : Shared) (Z₀ : ZMap) (H₀ : Hp) (dss : List (List D)) (e : Ev s Z H nil s₀ Z₀ H₀) (o : Ok X s₀ Z₀ H₀) (e₁ : Ev s₀ Z₀ H₀ nil s₁ Z₀ H₀) (o₁ : Ok X s₁ Z₀ H₀) (i : ItT X A s₀ it s₁ Z₀ dss) (g : G dss H₀)
noncomputable def tEI (X : Cx) (A : Around) (env : Env) (iter : Expr) (σ : Sto) (H : Hp) (G : List (List D) → Hp → Prop) : Prop :=
  ∀ s Z, Inv X s Z H env σ → wpAny X.M A (eval iter env) (fun x s' => wpAny X.M A (pyIter x) (PT X A s Z H G) No s') No s

theorem tX_ForT {elts : List Expr} {kk : Nat} {tp : Pos} {iter : Expr} {body : List Stmt} {pos : Pos} {Q : Fl → Sto → Hp → Prop}
    (h : tEI X A env iter σ H (fun dss H₁ => LF X A env (.Tuple elts kk tp) body Q (dss.map .tup) σ H₁))
    (hs : ∀ x, foldedSetIterable iter env x = pure x := by intro _; rfl) : tX X A env (.For (.Tuple elts kk tp) iter body [] pos) σ H Q := fun s Z i => by
  refine wpAny_For (wpAny_mono (h s Z i) (fun x s' p => wpAny_mono p (fun it s₁ p => ?_) fun _ _ f => f) fun _ _ f => f) hs
  obtain ⟨s₀, Z₀, H₀, dss, e₀, o₀, e₁, o₁, ⟨I, fp, wr, P, St, Mid, rfl, W, hst, hP, hwr, hfp, hhas⟩, q₁⟩ := p
  have i₀ := i.step e₀ o₀
  have i₁ := i₀.step e₁ o₁
  have hwO : ∀ b ∈ wr, ¬ ownA env b := fun b hb q => i₀.has q (hwr b hb)
  refine codeAny_mono (codeAny_forLoop_any (R := fun r s' => match r with | .ok f => PS X s₀ Z₀ H₀ env Q f s' | .error e => False)
    (fun n s' => ∃ j Z' H' σ', j ≤ dss.length ∧ n = dss.length + 1 - j ∧ Ev s₀ Z₀ H₀ (ownA env) s' Z' H' ∧ Inv X s' Z' H' env σ' ∧ (∀ b ∈ wr, Z' b = none ∧ H' b = none) ∧ St j s'.heap ∧ LF X A env (.Tuple elts kk tp) body Q ((dss.drop j).map .tup) σ' H') ?_ (dss.length + 1)
      ⟨0, Z₀, H₀, σ, Nat.zero_le _, rfl, e₁.any, i₁, fun b hb => ⟨o₀.none_z (hwr b hb), o₀.none_h (hwr b hb)⟩, hst, q₁⟩) fun r s' hr => ?_
  · rintro n s₂ ⟨j, Z₂, H₂, σ₂, hj, rfl, e₂, i₂, hw, hst₂, q₂⟩
    have hw₂ : ∀ b ∈ wr, Z₂ b = none ∧ H₂ b = none ∧ X.base.get? b = none ∧ ¬ ownA env b := fun b hb => ⟨(hw b hb).1, (hw b hb).2, o₀.none_b (hwr b hb), hwO b hb⟩
    by_cases hlt : j < dss.length
    · refine W.item j s₂ _ _ hlt hst₂ fun T vals h' tk hv hTn hT hMid hk => ?_
      obtain ⟨dj, hdj, rv⟩ := hP j vals hv
      have hTw := W.apart _ _ _ hMid
      have hTnone : s₂.heap.get? T = none := Heap.get?_none_of_le hTn
      refine W.go elts kk tp j T { s₂ with heap := h', toks := tk } _ _ hMid fun h3 hst₃ hk3 => ?_
      obtain ⟨oT, hoT, hcT, nT, hdT⟩ := hT
      have hoT3 : h3.get? T = some oT := hk3 _ _ hTw hoT
      have i₃ : Inv X { s₂ with heap := h3, toks := tk } Z₂ H₂ env σ₂ := i₂.wr hw₂ fun b o hb e => hk3 b o hb (hk b o hb e)
      have e₃ : Ev s₀ Z₀ H₀ (ownA env) { s₂ with heap := h3, toks := tk } Z₂ H₂ := e₂.wr hwr fun b o hb e => hk3 b o hb (hk b o hb e)
      have hzT := i₂.ok.none_z hTnone
      have hhT := i₂.ok.none_h hTnone
      have hsz : sysModules < T := Nat.lt_of_lt_of_le i₂.ok.big hTn
      have o₄ := i₃.ok.adoptZ hoT3 hzT hhT hsz
      have hTn0 : s₀.heap.get? T = none := e₂.grow _ hTnone
      have e₄ : Ev s₀ Z₀ H₀ (ownA env) { s₂ with heap := h3, toks := tk } (zput Z₂ T oT) H₂ := e₃.adoptZ hzT hTn0
      have hTO : ¬ ownA env T := fun q => i₂.has q hTnone
      have i₄ : Inv X { s₂ with heap := h3, toks := tk } (zput Z₂ T oT) H₂ env σ₂ := ⟨o₄, i₃.eok, by
          obtain ⟨m, hn, hm⟩ := i₃.loc; exact ⟨m, hn, fun x hx => (hm x hx).mono (zput_le hzT)⟩, fun x c hc => by
          obtain ⟨ov, hv, r⟩ := i₃.cel x c hc; exact ⟨ov, hv, r.mono (zput_le hzT)⟩, fun a ha => by
          have := i₃.own a ha
          refine ⟨?_, this.2⟩
          have hne : a ≠ T := fun (q : a = T) => hTO (q ▸ ha)
          unfold zput; rw [if_neg hne]; exact this.1⟩
      rw [List.drop_eq_getElem_cons hlt, List.map_cons] at q₂
      have hdj' : dss[j] = dj := by rw [List.getElem?_eq_getElem hlt] at hdj; exact Option.some.inj hdj
      rw [hdj'] at q₂
      have hzle : ZLe Z₀ (zput Z₂ T oT) := e₄.zle
      refine wpAny_mono (q₂ _ (zput Z₂ T oT) (.ref T) i₄ (.cont zput_self (.tup hcT hdT (rv.mono hzle)))) (fun _ s₄ p => ?_) fun _ _ f => f.elim
      obtain ⟨Z₄, H₄, σ₄, e₅, i₅, q₄⟩ := p
      refine wpAny_mono (q₄ s₄ Z₄ i₅) (fun fl s₅ p => ?_) fun _ _ f => f.elim
      obtain ⟨Z₅, H₅, σ₅, f, e₆, i₆, r₅, q₅⟩ := p
      have e45 := e₅.trans e₆
      have e15 := e₄.trans e45
      have hw4 : ∀ b ∈ wr, zput Z₂ T oT b = none := fun b hb => by
        have hne : b ≠ T := fun (q : b = T) => hTw (q ▸ hb)
        unfold zput; rw [if_neg hne]; exact (hw b hb).1
      have hst₅ : St (j + 1) s₅.heap := W.frame _ _ _ hst₃ fun b hb o ho => by
        refine e45.keep b o ho ?_ ?_
        · rcases hfp b hb with q | q
          · exact (hw b q).2
          · cases w : H₂ b with
            | none => rfl
            | some d' =>
              have := (i₂.ok.sep b (by rw [w]; simp)).1
              cases w' : Z₀ b with
              | none => exact absurd w' q
              | some o' => rw [e₂.zle b o' w'] at this; cases this
        · intro hO
          rcases hfp b hb with q | q
          · exact hwO b q hO
          · exact q (i₀.own b hO).1
      have hw₅ : ∀ b ∈ wr, Z₅ b = none ∧ H₅ b = none := fun b hb => ⟨e45.znew b (hw4 b hb) (hw b hb).2 (hhas _ _ hst₃ b hb), e45.hnew b (hw b hb).2 (hhas _ _ hst₃ b hb)⟩
      cases r₅ with
      | next => exact ⟨_, by omega, j + 1, Z₅, H₅, σ₅, hlt, rfl, e15, i₆, hw₅, hst₅, q₅⟩
      | cont => exact ⟨_, by omega, j + 1, Z₅, H₅, σ₅, hlt, rfl, e15, i₆, hw₅, hst₅, q₅⟩
      | brk => exact ⟨Z₅, H₅, σ₅, .next, e15, i₆, .next, q₅⟩
      | ret r => exact ⟨Z₅, H₅, σ₅, _, e15, i₆, .ret r, q₅⟩
    · have hj' : j = dss.length := by omega
      subst hj'
      rw [List.drop_length] at q₂
      refine W.done s₂ _ _ hst₂ fun h' tk hk => ?_
      have i₃ : Inv X { s₂ with heap := h', toks := tk } Z₂ H₂ env σ₂ := i₂.wr hw₂ hk
      have e₃ : Ev s₀ Z₀ H₀ (ownA env) { s₂ with heap := h', toks := tk } Z₂ H₂ := e₂.wr hwr hk
      exact wpAny_execs_nil ⟨Z₂, H₂, σ₂, .next, e₃, i₃, .next, q₂⟩
  · cases r with
    | ok f => exact hr.trans e₀.any
    | error e => exact hr.elim
end
end Mine

end

noncomputable section
open PySem PySem.W PySem.Calls PyProof.Rows
set_option maxHeartbeats 1000000
namespace Mine
section
variable {X : Cx} {A : Around} {s s' s'' s₀ : Shared} {Z Z' : ZMap} {H H' : Hp} {env : Env} {σ σ' : Sto}

theorem next_tup {it l : Addr} {i : Nat} {items : Array Value} {x : Value} {E : Value → Shared → Prop} {Q : Value → Shared → Prop} (hit : s.heap.IsTupleIter it l i) (hl : s.heap.IsTuple l items) (hx : items[i]? = some x)
    (hQ : ∀ h', h'.IsTupleIter it l (i + 1) → Heap.SameBut it s.heap h' → Q x { s with heap := h' }) : wpAny X.M A (Builtin.SmallTypes.nextOf (.ref it)) Q E s := by
  obtain ⟨o, ho, hc, hd⟩ := id hit
  obtain ⟨ol, hol, _, nl, hdl⟩ := hl
  unfold Builtin.SmallTypes.nextOf
  refine wpAny_bind (wpAny_callSpecial?_slot (name := Str.ofString "__next__") hit.typeIs PySem.F.slot_tuple_iterator_next
    (wpAny_call_entry PySem.F.slot_tuple_iterator_next hit.typeIs PySem.F.entry_tuple_iterator_next ?_ (PySem.F.args_tuple_iterator_next_1 _)))
  show wpAny _ _ (field (.ref it) 0 >>= _) _ _ s
  refine wpAny_bind (wpAny_field ho hd (x := .ref l) rfl ?_)
  show wpAny _ _ (if (Value.ref l == Value.none) = true then _ else _) _ _ s
  rw [if_neg (show ¬ ((Value.ref l == Value.none) = true) from Bool.false_ne_true)]
  show wpAny _ _ (field (.ref it) 1 >>= _) _ _ s
  refine wpAny_bind (wpAny_field ho hd (x := .int i 0) rfl ?_)
  show wpAny _ _ (seqItems? (.ref l) >>= _) _ _ s
  refine wpAny_bind (wpAny_seqItems hol hdl ?_)
  simp only [Int.toNat_natCast, hx]
  refine wpAny_bind (wpAny_setField ho hd (by simp) (wpAny_pure ⟨x, rfl, wpAny_pure (hQ _ ?_ (Heap.SameBut.update ..))⟩))
  exact ⟨_, Heap.get?_update_self _ ho (Obj.isFreed_of_fields (Obj.data_mapFields hd _)), (Obj.cls_mapFields ..).trans hc, by
    rw [Obj.data_mapFields hd]; simp [rawInt]⟩
theorem end_tup {it l : Addr} {i : Nat} {items : Array Value} {E : Value → Shared → Prop} {Q : Value → Shared → Prop} (hh : A.handled = none) (hit : s.heap.IsTupleIter it l i) (hl : s.heap.IsTuple l items) (hx : items[i]? = none)
    (hE : ∀ h' e, Heap.ExtBut it s.heap h' → (∃ o, h'.get? e = some o ∧ o.cls = .type "StopIteration") → E (.ref e) { s with heap := h' }) : wpAny X.M A (Builtin.SmallTypes.nextOf (.ref it)) Q E s := by
  obtain ⟨o, ho, hc, hd⟩ := id hit
  obtain ⟨ol, hol, _, nl, hdl⟩ := hl
  unfold Builtin.SmallTypes.nextOf
  refine wpAny_bind (wpAny_callSpecial?_slot (name := Str.ofString "__next__") hit.typeIs PySem.F.slot_tuple_iterator_next
    (wpAny_call_entry PySem.F.slot_tuple_iterator_next hit.typeIs PySem.F.entry_tuple_iterator_next ?_ (PySem.F.args_tuple_iterator_next_1 _)))
  show wpAny _ _ (field (.ref it) 0 >>= _) _ _ s
  refine wpAny_bind (wpAny_field ho hd (x := .ref l) rfl ?_)
  show wpAny _ _ (if (Value.ref l == Value.none) = true then _ else _) _ _ s
  rw [if_neg (show ¬ ((Value.ref l == Value.none) = true) from Bool.false_ne_true)]
  show wpAny _ _ (field (.ref it) 1 >>= _) _ _ s
  refine wpAny_bind (wpAny_field ho hd (x := .int i 0) rfl ?_)
  show wpAny _ _ (seqItems? (.ref l) >>= _) _ _ s
  refine wpAny_bind (wpAny_seqItems hol hdl ?_)
  simp only [Int.toNat_natCast, hx]
  refine wpAny_bind (wpAny_rule (wpAny_bind (wpAny_setField ho hd (by simp) ?_)))
  show wpAny _ _ (newExc (.type "StopIteration") [] >>= _) _ _ _
  refine wpAny_bind ?_
  simp only [newExc, newTuple]
  refine wpAny_bind (wpAny_newObj_type ?_ (by size_fits))
  refine wpAny_bind (m := firstArgMember _ _) (wpAny_of_eq (a := Value.none) (by first | rfl | (simp only [firstArgMember]; rfl)) ?_)
  refine wpAny_newObj_type ?_ (by size_fits)
  simp only [raiseNew]
  refine wpAny_bind (wpAny_handled ?_)
  first | rw [show A.in1.handled = none from hh] | rw [hh]
  refine wpAny_bind (wpAny_pure (wpAny_throw ?_))
  exact hE _ _ (((Heap.SameBut.update ..).extBut.push _).push _) ⟨_, Heap.get?_push_size _ rfl, rfl⟩
theorem Draws.tup (hh : A.handled = none) (it l : Addr) (hne : l ≠ it) (items : Array Value) :
    Draws X.prog X.w A it [it, l] items.size (fun i v => items[i]? = some v) (fun i h => h.IsTupleIter it l i ∧ h.IsTuple l items) where
  live := fun i h st => by obtain ⟨⟨o, ho, _⟩, _⟩ := st; exact ⟨o, ho⟩
  frame := fun _ _ _ st hk => ⟨st.1.at fun o e => hk it (by simp) o e, st.2.at fun o e => hk l (by simp) o e⟩
  item := fun i s Q E hi st hQ => next_tup st.1 st.2 (Array.getElem?_eq_getElem hi) fun h' hit' hs' => hQ _ h' s.toks (by simp [hi]) ⟨hit', by obtain ⟨o, ho, r⟩ := st.2; exact ⟨o, (hs'.2 l hne).trans ho, r⟩⟩ hs'
  done := fun s Q E st hE => end_tup hh st.1 st.2 (by simp) hE

structure ZipF (z TI TO i1 i2 : Addr) (f1 f2 : List Addr) : Prop where
  TIz : TI ≠ z
  TOz : TO ≠ z
  TITO : TI ≠ TO
  z1 : z ∉ f1
  z2 : z ∉ f2
  TI1 : TI ∉ f1
  TI2 : TI ∉ f2
  TO1 : TO ∉ f1
  TO2 : TO ∉ f2
  i12 : i1 ∉ f2
  i21 : i2 ∉ f1
  i11 : i1 ∈ f1
  i22 : i2 ∈ f2

theorem zipF_of (n a b : Nat) (ha : a < n) (hb : b < n) : ZipF (n + 4) (n + 2) (n + 3) n (n + 1) [n, a] [n + 1, b] := by
  have h1 : ∀ x y : Nat, x ≠ y → ∀ u v : Nat, x ≠ v → x ∉ [y, v] := fun x y h _ v h' q => by
    simp only [List.mem_cons, List.not_mem_nil, or_false] at q; exact q.elim h h'
  exact ⟨(by omega : (n + 2 : Nat) ≠ n + 4), (by omega : (n + 3 : Nat) ≠ n + 4), (by omega : (n + 2 : Nat) ≠ n + 3), h1 _ _ (by omega) 0 _ (by omega), h1 _ _ (by omega) 0 _ (by omega), h1 _ _ (by omega) 0 _ (by omega), h1 _ _ (by omega) 0 _ (by omega),
    h1 _ _ (by omega) 0 _ (by omega), h1 _ _ (by omega) 0 _ (by omega), h1 _ _ (by omega) 0 _ (by omega), h1 _ _ (by omega) 0 _ (by omega), .head _, .head _⟩
theorem WalksT.zipDD {z TI TO i1 i2 : Addr} {f1 f2 : List Addr} {n1 n2 : Nat} {P1 P2 : Nat → Value → Prop} {S1 S2 : Nat → Heap → Prop} (F : ZipF z TI TO i1 i2 f1 f2)
    (D1 : Draws X.prog X.w A.in1 i1 f1 n1 P1 S1) (D2 : Draws X.prog X.w A.in1 i2 f2 n2 P2 S2) :
    WalksT X.prog X.w A z (z :: TI :: TO :: (f1 ++ f2)) [z, TI, TO, i1, i2] (min n1 n2)
      (fun i vals => ∃ x y, P1 i x ∧ P2 i y ∧ vals = #[x, y])
      (fun i h => IsZip h z TI TO .none ∧ IsPair h TI (.ref i1) (.ref i2) ∧ (∃ a b, IsPair h TO a b) ∧ S1 i h ∧ S2 i h)
      (fun i T h => IsZip h z TI TO (rawInt T) ∧ IsPair h TI (.ref i1) (.ref i2) ∧ (∃ a b, IsPair h TO a b) ∧ S1 (i + 1) h ∧ S2 (i + 1) h ∧ T ∉ [z, TI, TO, i1, i2]) where
  sub := fun c hc => by
    simp only [List.mem_cons, List.not_mem_nil, or_false] at hc
    rcases hc with rfl | rfl | rfl | rfl | rfl
    · exact .head _
    · exact .tail _ (.head _)
    · exact .tail _ (.tail _ (.head _))
    · exact .tail _ (.tail _ (.tail _ (List.mem_append_left _ F.i11)))
    · exact .tail _ (.tail _ (.tail _ (List.mem_append_right _ F.i22)))
  frame := fun i h h' hst hk => by
    obtain ⟨hz, hTI, ⟨a, b, hTO⟩, h1, h2⟩ := hst
    exact ⟨hk z (.head _) _ hz, hk TI (.tail _ (.head _)) _ hTI, ⟨a, b, hk TO (.tail _ (.tail _ (.head _))) _ hTO⟩, D1.frame _ _ _ h1 fun b hb => hk b (.tail _ (.tail _ (.tail _ (List.mem_append_left _ hb)))),
      D2.frame _ _ _ h2 fun b hb => hk b (.tail _ (.tail _ (.tail _ (List.mem_append_right _ hb))))⟩
  item := fun i s Q E hi hst hQ => by
    obtain ⟨hz, hTI, ⟨a, b, hTO⟩, h1, h2⟩ := hst
    have hT : s.TypeIs (.ref z) "zip" := ⟨_, hz, rfl⟩
    have ne1 : ∀ c ∈ f1, c ≠ z ∧ c ≠ TI ∧ c ≠ TO ∧ c ≠ i2 := fun c hc => ⟨fun (q : c = z) => F.z1 (q ▸ hc), fun (q : c = TI) => F.TI1 (q ▸ hc), fun (q : c = TO) => F.TO1 (q ▸ hc), fun (q : c = i2) => F.i21 (q ▸ hc)⟩
    have ne2 : ∀ c ∈ f2, c ≠ z ∧ c ≠ TI ∧ c ≠ TO ∧ c ≠ i1 := fun c hc => ⟨fun (q : c = z) => F.z2 (q ▸ hc), fun (q : c = TI) => F.TI2 (q ▸ hc), fun (q : c = TO) => F.TO2 (q ▸ hc), fun (q : c = i1) => F.i12 (q ▸ hc)⟩
    have z1 : z ≠ i1 := fun q => F.z1 (q ▸ F.i11)
    have z2 : z ≠ i2 := fun q => F.z2 (q ▸ F.i22)
    have t1 : TO ≠ i1 := fun q => F.TO1 (q ▸ F.i11)
    have t2 : TO ≠ i2 := fun q => F.TO2 (q ▸ F.i22)
    have u1 : TI ≠ i1 := fun q => F.TI1 (q ▸ F.i11)
    have u2 : TI ≠ i2 := fun q => F.TI2 (q ▸ F.i22)
    unfold pyNext
    refine wpAny_bind (wpAny_attempt (wpAny_callSpecial?_slot (name := Str.ofString "__next__") hT PySem.F.slot_zip_next (wpAny_call_entry PySem.F.slot_zip_next hT PySem.F.entry_zip_next ?_ (PySem.F.args_zip_next_1 _))))
    show wpAny _ _ (field (.ref z) 2 >>= _) _ _ _
    refine wpAny_bind (wpAny_field hz rfl (x := .bool false) rfl ?_)
    show wpAny _ _ (field (.ref z) 3 >>= _) _ _ _
    refine wpAny_bind (wpAny_field hz rfl (x := .ref TI) rfl ?_)
    refine wpAny_bind (wpAny_seqItems hTI rfl ?_)
    show wpAny _ _ (Builtin.SmallTypes.ownedTupleIsFree (.ref z) >>= _) _ _ _
    refine wpAny_bind ?_
    unfold Builtin.SmallTypes.ownedTupleIsFree
    refine wpAny_bind (wpAny_field hz rfl (x := .none) rfl (wpAny_pure ?_))
    simp only [if_true]
    refine wpAny_bind (wpAny_rule ?_)
    refine wpAny_bind (wpAny_field hz rfl (x := .ref TO) rfl ?_)
    refine wpAny_bind (wpAny_setField_rec hz (by simp) fun h₁ hz₁ hs₁ => ?_)
    replace hz₁ : IsZip h₁ z TI TO .ellipsis := hz₁
    refine wpAny_bind ?_
    simp only [List.zipIdx_cons, List.zipIdx_nil, List.forIn_cons, List.forIn_nil]
    refine wpAny_bind (wpAny_bind (wpAny_onRaise ?_))
    show wpAny _ _ (Builtin.SmallTypes.nextOf (.ref i1) >>= _) _ _ _
    have hi1 : i < n1 := Nat.lt_of_lt_of_le hi (Nat.min_le_left ..)
    have hi2 : i < n2 := Nat.lt_of_lt_of_le hi (Nat.min_le_right ..)
    refine wpAny_bind (D1.item i { s with heap := h₁ } _ _ hi1 (D1.frame _ _ _ h1 fun c hc o e => hs₁.extBut _ _ (ne1 c hc).1 e) fun x h₂ tk₂ hx h1₂ hs₂ => wpAny_pure ?_)
    have hTO₂ : IsPair h₂ TO a b := hs₂.extBut _ _ t1 (hs₁.extBut _ _ F.TOz hTO)
    refine wpAny_bind (wpAny_seqItems hTO₂ rfl ?_)
    refine wpAny_bind (wpAny_updateSeq_pair (s := { s with heap := h₂, toks := tk₂ }) hTO₂ fun h₃ hTO₃ hs₃ => ?_)
    replace hTO₃ : IsPair h₃ TO x b := hTO₃
    refine wpAny_bind (wpAny_letGo (wpAny_pure ?_))
    refine wpAny_bind (wpAny_bind (wpAny_onRaise ?_))
    show wpAny _ _ (Builtin.SmallTypes.nextOf (.ref i2) >>= _) _ _ _
    refine wpAny_bind (D2.item i { s with heap := h₃, toks := tk₂ } _ _ hi2 (D2.frame _ _ _ h2 fun c hc o e => hs₃.extBut _ _ (ne2 c hc).2.2.1 (hs₂.extBut _ _ (ne2 c hc).2.2.2 (hs₁.extBut _ _ (ne2 c hc).1 e))) fun y h₄ tk₄ hy h2₄ hs₄ => wpAny_pure ?_)
    have hTO₄ : IsPair h₄ TO x b := hs₄.extBut _ _ t2 hTO₃
    refine wpAny_bind (wpAny_seqItems hTO₄ rfl ?_)
    refine wpAny_bind (wpAny_updateSeq_pair (s := { s with heap := h₄, toks := tk₄ }) hTO₄ fun h₅ hTO₅ hs₅ => ?_)
    replace hTO₅ : IsPair h₅ TO x y := hTO₅
    refine wpAny_bind (wpAny_letGo (wpAny_pure (wpAny_pure ?_)))
    refine wpAny_bind (wpAny_seqItems hTO₅ rfl ?_)
    refine wpAny_bind (wpAny_newTuple ?_)
    have hsz : h₅.objs.size = s.heap.objs.size := by rw [hs₅.1, hs₄.1, hs₃.1, hs₂.1, hs₁.1]
    have hz₅ : IsZip h₅ z TI TO .ellipsis := hs₅.extBut _ _ F.TOz.symm (hs₄.extBut _ _ z2 (hs₃.extBut _ _ F.TOz.symm (hs₂.extBut _ _ z1 hz₁)))
    have hk₅ : ∀ c o, c ≠ z → c ≠ TO → c ≠ i1 → c ≠ i2 → s.heap.get? c = some o → h₅.get? c = some o := fun c o c1 c2 c3 c4 e =>
      hs₅.extBut _ _ c2 (hs₄.extBut _ _ c4 (hs₃.extBut _ _ c2 (hs₂.extBut _ _ c3 (hs₁.extBut _ _ c1 e))))
    have h1₅ : S1 (i + 1) h₅ := D1.frame _ _ _ h1₂ fun c hc o e => hs₅.extBut _ _ (ne1 c hc).2.2.1 (hs₄.extBut _ _ (ne1 c hc).2.2.2 (hs₃.extBut _ _ (ne1 c hc).2.2.1 e))
    have h2₅ : S2 (i + 1) h₅ := D2.frame _ _ _ h2₄ fun c hc o e => hs₅.extBut _ _ (ne2 c hc).2.2.1 e
    have hzlt : z < h₅.objs.size := Heap.lt_size hz₅
    have hTOlt : TO < h₅.objs.size := Heap.lt_size hTO₅
    have hTIlt : TI < h₅.objs.size := Heap.lt_size (hk₅ _ _ F.TIz F.TITO u1 u2 hTI)
    have hi1lt : i1 < h₅.objs.size := by obtain ⟨_, e⟩ := D1.live _ _ h1₅; exact Heap.lt_size e
    have hi2lt : i2 < h₅.objs.size := by obtain ⟨_, e⟩ := D2.live _ _ h2₅; exact Heap.lt_size e
    show wpAny _ _ (Builtin.SmallTypes.ownedTupleHandOut (.ref z) (.ref h₅.objs.size) >>= _) _ _ _
    refine wpAny_bind ?_
    unfold Builtin.SmallTypes.ownedTupleHandOut
    have hz₆ : IsZip (h₅.push { cls := .type "tuple", data := .seq #[x, y] }) z TI TO .ellipsis := Heap.get?_push_of_some _ hz₅
    refine wpAny_bind (wpAny_setField_rec (s := { s with heap := h₅.push { cls := .type "tuple", data := .seq #[x, y] }, toks := tk₄ }) hz₆ (by simp) fun h₇ hz₇ hs₇ => ?_)
    replace hz₇ : IsZip h₇ z TI TO (rawInt h₅.objs.size) := hz₇
    refine wpAny_setField_rec (s := { s with heap := h₇, toks := tk₄ }) hz₇ (by simp) fun h₈ hz₈ hs₈ => ?_
    replace hz₈ : IsZip h₈ z TI TO (rawInt h₅.objs.size) := hz₈
    have up : ∀ c o, c ≠ z → h₅.get? c = some o → h₈.get? c = some o := fun c o c1 e => hs₈.extBut _ _ c1 (hs₇.extBut _ _ c1 (Heap.get?_push_of_some _ e))
    have hT₈ : IsPair h₈ h₅.objs.size x y := hs₈.extBut _ _ (Nat.ne_of_gt hzlt) (hs₇.extBut _ _ (Nat.ne_of_gt hzlt) (Heap.get?_push_size _ rfl))
    refine wpAny_pure ⟨_, rfl, wpAny_pure ?_⟩
    refine hQ h₅.objs.size #[x, y] h₈ tk₄ ⟨x, y, hx, hy, rfl⟩ (by rw [hsz]; exact Nat.le_refl _) ⟨_, hT₈, rfl, _, rfl⟩ ⟨hz₈, up _ _ F.TIz (hk₅ _ _ F.TIz F.TITO u1 u2 hTI), ⟨x, y, up _ _ F.TOz hTO₅⟩,
      D1.frame _ _ _ h1₅ fun c hc o e => up c o (ne1 c hc).1 e, D2.frame _ _ _ h2₅ fun c hc o e => up c o (ne2 c hc).1 e, ?_⟩ fun c o hc e => ?_
    · simp only [List.mem_cons, List.not_mem_nil, or_false, not_or]
      exact ⟨Nat.ne_of_gt hzlt, Nat.ne_of_gt hTIlt, Nat.ne_of_gt hTOlt, Nat.ne_of_gt hi1lt, Nat.ne_of_gt hi2lt⟩
    · simp only [List.mem_cons, List.not_mem_nil, or_false, not_or] at hc
      exact up c o hc.1 (hk₅ c o hc.1 hc.2.2.1 hc.2.2.2.1 hc.2.2.2.2 e)
  go := fun elts k pos i T s Q E hm hQ => by
    obtain ⟨hz, hTI, ⟨a, b, hTO⟩, h1, h2, _⟩ := hm
    refine wpAny_letOwnedTupleGo_zip hz fun h' hz' hs' => hQ h' ⟨hz', hs'.extBut _ _ F.TIz hTI, ⟨a, b, hs'.extBut _ _ F.TOz hTO⟩, D1.frame _ _ _ h1 fun c hc o e => hs'.extBut _ _ (fun (q : c = z) => F.z1 (q ▸ hc)) e,
      D2.frame _ _ _ h2 fun c hc o e => hs'.extBut _ _ (fun (q : c = z) => F.z2 (q ▸ hc)) e⟩ fun c o hc e => hs'.extBut _ _ (fun x => hc (by simp [x])) e
  apart := fun i T h hm => hm.2.2.2.2.2
  done := fun s Q E hst hQ => by
    obtain ⟨hz, hTI, ⟨a, b, hTO⟩, h1, h2⟩ := hst
    have hT : s.TypeIs (.ref z) "zip" := ⟨_, hz, rfl⟩
    have ne1 : ∀ c ∈ f1, c ≠ z ∧ c ≠ TI ∧ c ≠ TO ∧ c ≠ i2 := fun c hc => ⟨fun (q : c = z) => F.z1 (q ▸ hc), fun (q : c = TI) => F.TI1 (q ▸ hc), fun (q : c = TO) => F.TO1 (q ▸ hc), fun (q : c = i2) => F.i21 (q ▸ hc)⟩
    have ne2 : ∀ c ∈ f2, c ≠ z ∧ c ≠ TI ∧ c ≠ TO ∧ c ≠ i1 := fun c hc => ⟨fun (q : c = z) => F.z2 (q ▸ hc), fun (q : c = TI) => F.TI2 (q ▸ hc), fun (q : c = TO) => F.TO2 (q ▸ hc), fun (q : c = i1) => F.i12 (q ▸ hc)⟩
    have z1 : z ≠ i1 := fun q => F.z1 (q ▸ F.i11)
    have z2 : z ≠ i2 := fun q => F.z2 (q ▸ F.i22)
    have t1 : TO ≠ i1 := fun q => F.TO1 (q ▸ F.i11)
    have t2 : TO ≠ i2 := fun q => F.TO2 (q ▸ F.i22)
    have u1 : TI ≠ i1 := fun q => F.TI1 (q ▸ F.i11)
    have u2 : TI ≠ i2 := fun q => F.TI2 (q ▸ F.i22)
    unfold pyNext
    refine wpAny_bind (wpAny_attempt (wpAny_callSpecial?_slot (name := Str.ofString "__next__") hT PySem.F.slot_zip_next (wpAny_call_entry PySem.F.slot_zip_next hT PySem.F.entry_zip_next ?_ (PySem.F.args_zip_next_1 _))))
    show wpAny _ _ (field (.ref z) 2 >>= _) _ _ _
    refine wpAny_bind (wpAny_field hz rfl (x := .bool false) rfl ?_)
    show wpAny _ _ (field (.ref z) 3 >>= _) _ _ _
    refine wpAny_bind (wpAny_field hz rfl (x := .ref TI) rfl ?_)
    refine wpAny_bind (wpAny_seqItems hTI rfl ?_)
    show wpAny _ _ (Builtin.SmallTypes.ownedTupleIsFree (.ref z) >>= _) _ _ _
    refine wpAny_bind ?_
    unfold Builtin.SmallTypes.ownedTupleIsFree
    refine wpAny_bind (wpAny_field hz rfl (x := .none) rfl (wpAny_pure ?_))
    simp only [if_true]
    refine wpAny_bind (wpAny_rule ?_)
    refine wpAny_bind (wpAny_field hz rfl (x := .ref TO) rfl ?_)
    refine wpAny_bind (wpAny_setField_rec hz (by simp) fun h₁ hz₁ hs₁ => ?_)
    replace hz₁ : IsZip h₁ z TI TO .ellipsis := hz₁
    refine wpAny_bind ?_
    simp only [List.zipIdx_cons, List.zipIdx_nil, List.forIn_cons, List.forIn_nil]
    refine wpAny_bind (wpAny_bind (wpAny_onRaise ?_))
    show wpAny _ _ (Builtin.SmallTypes.nextOf (.ref i1) >>= _) _ _ _
    have stop : ∀ (A' : Around) h' e, (∃ o, h'.get? e = some o ∧ o.cls = .type "StopIteration") → (∀ c o, c ≠ z → c ≠ TO → c ≠ i1 → c ≠ i2 → s.heap.get? c = some o → h'.get? c = some o) → ∀ tk,
        wpAny X.M A' (do if ← isInstance (.ref e) (.type "StopIteration") then pure none else throw (.ref e)) Q E { s with heap := h', toks := tk } := fun A' h' e ⟨o, ho, hc⟩ hk tk => by
      refine wpAny_bind (wpAny_isInstance (T := "StopIteration") (b := true) ⟨o, ho, hc⟩ isSubtype_stop ?_)
      exact wpAny_pure (hQ h' tk fun c o hc e => by
        simp only [List.mem_cons, List.not_mem_nil, or_false, not_or] at hc
        exact hk c o hc.1 hc.2.2.1 hc.2.2.2.1 hc.2.2.2.2 e)
    rcases Nat.lt_or_ge n2 n1 with hlt | hge
    · have hmin : min n1 n2 = n2 := Nat.min_eq_right (Nat.le_of_lt hlt)
      rw [hmin] at h1 h2
      refine wpAny_bind (D1.item n2 { s with heap := h₁ } _ _ hlt (D1.frame _ _ _ h1 fun c hc o e => hs₁.extBut _ _ (ne1 c hc).1 e) fun x h₂ tk₂ hx h1₂ hs₂ => wpAny_pure ?_)
      have hTO₂ : IsPair h₂ TO a b := hs₂.extBut _ _ t1 (hs₁.extBut _ _ F.TOz hTO)
      refine wpAny_bind (wpAny_seqItems hTO₂ rfl ?_)
      refine wpAny_bind (wpAny_updateSeq_pair (s := { s with heap := h₂, toks := tk₂ }) hTO₂ fun h₃ hTO₃ hs₃ => ?_)
      refine wpAny_bind (wpAny_letGo (wpAny_pure ?_))
      refine wpAny_bind (wpAny_bind (wpAny_onRaise ?_))
      show wpAny _ _ (Builtin.SmallTypes.nextOf (.ref i2) >>= _) _ _ _
      refine wpAny_bind (D2.done { s with heap := h₃, toks := tk₂ } _ _ (D2.frame _ _ _ h2 fun c hc o e => hs₃.extBut _ _ (ne2 c hc).2.2.1 (hs₂.extBut _ _ (ne2 c hc).2.2.2 (hs₁.extBut _ _ (ne2 c hc).1 e))) fun h₄ e hs₄ he => ?_)
      obtain ⟨oe, hoe, hce⟩ := he
      have hz₄ : IsZip h₄ z TI TO .ellipsis := hs₄ _ _ z2 (hs₃.extBut _ _ F.TOz.symm (hs₂.extBut _ _ z1 hz₁))
      have hez : e ≠ z := fun x => by subst x; rw [hz₄] at hoe; cases hoe; simp at hce
      refine wpAny_setField_rec (s := { s with heap := h₄, toks := tk₂ }) hz₄ (by simp) fun h₅ _ hs₅ => stop _ h₅ e ⟨oe, hs₅.extBut _ _ hez hoe, hce⟩ (fun c o c1 c2 c3 c4 x => hs₅.extBut _ _ c1 (hs₄ _ _ c4 (hs₃.extBut _ _ c2 (hs₂.extBut _ _ c3 (hs₁.extBut _ _ c1 x))))) tk₂
    · have hmin : min n1 n2 = n1 := Nat.min_eq_left hge
      rw [hmin] at h1 h2
      refine wpAny_bind (D1.done { s with heap := h₁ } _ _ (D1.frame _ _ _ h1 fun c hc o e => hs₁.extBut _ _ (ne1 c hc).1 e) fun h₂ e hs₂ he => ?_)
      obtain ⟨oe, hoe, hce⟩ := he
      have hz₂ : IsZip h₂ z TI TO .ellipsis := hs₂ _ _ z1 hz₁
      have hez : e ≠ z := fun x => by subst x; rw [hz₂] at hoe; cases hoe; simp at hce
      refine wpAny_setField_rec (s := { s with heap := h₂ }) hz₂ (by simp) fun h₃ _ hs₃ => stop _ h₃ e ⟨oe, hs₃.extBut _ _ hez hoe, hce⟩ (fun c o c1 _ c3 _ x => hs₃.extBut _ _ c1 (hs₂ _ _ c3 (hs₁.extBut _ _ c1 x))) s.toks
  self := fun i s Q E hst hQ => wpAny_pyIter_zip hst.1 hQ

theorem meets_zipT (l1 l2 : Addr) (xs ys : Array Value) :
    Meets (Builtin.«zip.__new__» ⟨[.type "zip", .ref l1, .ref l2], []⟩) (fun _ R s => s.heap.IsTuple l1 xs ∧ s.heap.IsTuple l2 ys ∧
      ∀ h1 h2 h3 h4 h5, h1 = s.heap.push { cls := .type "tuple_iterator", data := .fields #[.ref l1, .int 0 0] } → h2 = h1.push { cls := .type "tuple_iterator", data := .fields #[.ref l2, .int 0 0] } →
        h3 = h2.push { cls := .type "tuple", data := .seq #[.ref s.heap.objs.size, .ref h1.objs.size] } → h4 = h3.push { cls := .type "tuple", data := .seq #[.none, .none] } →
        h5 = h4.push { cls := .type "zip", data := .fields #[.none, .bool false, .bool false, .ref h2.objs.size, .ref h3.objs.size] } → R (.ok (.ret (.ref h4.objs.size))) { s with heap := h5 }) :=
  .of_wp fun prog w A R s h => by
    obtain ⟨hp, g, d, tk, os⟩ := s; obtain ⟨hl1, hl2, h⟩ := h
    have hsub := sub_zip
    have hL1 : Heap.IsTuple (Shared.heap ⟨hp, g, d, tk, os⟩) l1 xs := hl1
    have hL2 : Heap.IsTuple (Shared.heap ⟨hp.push { cls := .type "tuple_iterator", data := .fields #[.ref l1, .int 0 0] }, g, d, tk, os⟩) l2 ys := Heap.IsTuple.push hl2 _
    wp_walk using wpAny_pyIter_tuple hL1, wpAny_pyIter_tuple hL2
    exact ⟨_, rfl, h _ _ _ _ _ rfl rfl rfl rfl rfl⟩

theorem tEI_zip {fn e1 e2 : Expr} {pos : Pos} {G : List (List D) → Hp → Prop} (hh : A.handled = none) (hp1 : noStar e1 = true) (hp2 : noStar e2 = true)
    (h : tE X A env fn σ H (fun f H₀ => f = .raw (.type "zip") ∧ tE X A env e1 σ H₀ (fun d1 H₁ => tE X A env e2 σ H₁ (fun d2 H₂ => ∃ ds1 ds2, d1 = .tup ds1 ∧ d2 = .tup ds2 ∧ G (List.zipWith (fun a b => [a, b]) ds1 ds2) H₂))))
    (he : eval (.Call fn [e1, e2] [] pos) env = (do callWith pos (← eval fn env) [] (backTo pos (starEach [e1, e2] env)) (backToKw pos (keywordEach [] env))) := by rfl) :
    tEI X A env (.Call fn [e1, e2] [] pos) σ H G := fun s Z i => by
  rw [he]
  refine wpAny_bind (wpAny_mono (h s Z i) (fun v sf p => ?_) fun _ _ f => f)
  obtain ⟨Zf, Hf, d, ef, of, rf, rfl, qf⟩ := p
  have hv := rf.raw_eq
  subst hv
  have hs : [e1, e2].all noStar = true := by simp [hp1, hp2]
  have hL : tL X A env [e1, e2] σ Hf (fun ds H₂ => ∃ ds1 ds2, ds = [.tup ds1, .tup ds2] ∧ G (List.zipWith (fun a b => [a, b]) ds1 ds2) H₂) :=
    tL_cons (qf.mono fun d1 H₁ q => tL_cons (q.mono fun d2 H₂ ⟨ds1, ds2, a, b, q⟩ => tL_nil ⟨ds1, ds2, by rw [a, b], q⟩))
  show wpAny _ _ (callWith pos (.type "zip") [] (backTo pos (starEach [e1, e2] env)) []) _ _ _
  refine callWith_of (P := fun hp => ∀ b o, X.base.get? b = some o → hp.get? b = some o) (by simp [plain_args hs]) (keeper_of keep_type) (evalArgs_of hs (wpAny_mono (spliced_tL hs hL (i.step ef of)) (fun vs s₀ p => ?_) fun _ _ f => f))
  obtain ⟨Z₀, H₀, ds, e₀, o₀, r₀, ds1, ds2, rfl, q⟩ := p
  refine ⟨o₀.base, ?_⟩
  cases r₀ with | cons r1 rn => cases rn with | cons r2 rn => cases rn with | nil =>
  cases r1 with
  | @cont l1 ob1 _ hz1 r1 => cases r1 with
    | @tup _ xs ep1 _ hc1 hd1 rs1 =>
  cases r2 with
  | @cont l2 ob2 _ hz2 r2 => cases r2 with
    | @tup _ ys ep2 _ hc2 hd2 rs2 =>
  have g1 := o₀.z _ _ hz1
  have g2 := o₀.z _ _ hz2
  have T1 : s₀.heap.IsTuple l1 xs := ⟨_, g1, hc1, _, hd1⟩
  have T2 : s₀.heap.IsTuple l2 ys := ⟨_, g2, hc2, _, hd2⟩
  refine callType_new PySem.F.called_zip (by decide) (PySem.F.typeCall_zip_2 _ _) (PySem.F.newCall_zip_2 _ _) (fun obj => PySem.F.args_object_init_3 obj _ _) PySem.F.entry_zip_new (meets_zipT l1 l2 xs ys) ⟨T1, T2, ?_⟩
  intro h1 h2 h3 h4 h5 E1 E2 E3 E4 E5
  have n0 : h1.objs.size = s₀.heap.objs.size + 1 := by rw [E1]; exact Heap.size_push ..
  have n1 : h2.objs.size = s₀.heap.objs.size + 2 := by rw [E2, Heap.size_push, n0]
  have n2 : h3.objs.size = s₀.heap.objs.size + 3 := by rw [E3, Heap.size_push, n1]
  have n3 : h4.objs.size = s₀.heap.objs.size + 4 := by rw [E4, Heap.size_push, n2]
  have k5 : ∀ b o, h4.get? b = some o → h5.get? b = some o := fun b o e => by rw [E5]; exact Heap.get?_push_of_some _ e
  have k4 : ∀ b o, h3.get? b = some o → h5.get? b = some o := fun b o e => k5 b o (by rw [E4]; exact Heap.get?_push_of_some _ e)
  have k3 : ∀ b o, h2.get? b = some o → h5.get? b = some o := fun b o e => k4 b o (by rw [E3]; exact Heap.get?_push_of_some _ e)
  have k2 : ∀ b o, h1.get? b = some o → h5.get? b = some o := fun b o e => k3 b o (by rw [E2]; exact Heap.get?_push_of_some _ e)
  have k1 : ∀ b o, s₀.heap.get? b = some o → h5.get? b = some o := fun b o e => k2 b o (by rw [E1]; exact Heap.get?_push_of_some _ e)
  have gi1 : h5.IsTupleIter s₀.heap.objs.size l1 0 := ⟨_, k2 _ _ (by rw [E1]; exact Heap.get?_push_size _ rfl), rfl, rfl⟩
  have gi2 : h5.IsTupleIter h1.objs.size l2 0 := ⟨_, k3 _ _ (by rw [E2]; exact Heap.get?_push_size _ rfl), rfl, rfl⟩
  have gTI : IsPair h5 h2.objs.size (.ref s₀.heap.objs.size) (.ref h1.objs.size) := k4 _ _ (by rw [E3]; exact Heap.get?_push_size _ rfl)
  have gTO : IsPair h5 h3.objs.size .none .none := k5 _ _ (by rw [E4]; exact Heap.get?_push_size _ rfl)
  have gz : IsZip h5 h4.objs.size h2.objs.size h3.objs.size .none := by rw [E5]; exact Heap.get?_push_size _ rfl
  have lt1 := Heap.lt_size g1
  have lt2 := Heap.lt_size g2
  have F : ZipF h4.objs.size h2.objs.size h3.objs.size s₀.heap.objs.size h1.objs.size [s₀.heap.objs.size, l1] [h1.objs.size, l2] := by
    rw [n0, n1, n2, n3]
    exact zipF_of _ _ _ lt1 lt2
  have D1 : Draws X.prog X.w A.in1 s₀.heap.objs.size [s₀.heap.objs.size, l1] xs.size _ _ := Draws.tup (X := X) (A := A.in1) hh s₀.heap.objs.size l1 (Nat.ne_of_lt lt1) xs
  have D2 : Draws X.prog X.w A.in1 h1.objs.size [h1.objs.size, l2] ys.size _ _ := Draws.tup (X := X) (A := A.in1) hh h1.objs.size l2 (by rw [n0]; exact Nat.ne_of_lt (Nat.lt_succ_of_lt lt2)) ys
  have W := WalksT.zipDD (A := A) F D1 D2
  refine ⟨⟨_, gz, rfl⟩, ?_⟩
  refine wpAny_pyIter_zip (s := { s₀ with heap := h5 }) gz ?_
  have ev : Ev s₀ Z₀ H₀ nil { s₀ with heap := h5, toks := s₀.toks } Z₀ H₀ := Ev.keeps k1
  have l1e : xs.size = ds1.length := by rw [← rs1.length, Array.length_toList]
  have l2e : ys.size = ds2.length := by rw [← rs2.length, Array.length_toList]
  have W' := W
  rw [show min xs.size ys.size = (List.zipWith (fun a b => [a, b]) ds1 ds2).length from by rw [List.length_zipWith, l1e, l2e]] at W'
  refine ⟨s₀, Z₀, H₀, _, ef.trans e₀, o₀, ev, o₀.keeps (tk := s₀.toks) k1, ⟨h4.objs.size, _, _, _, _, _, rfl, W', And.intro gz (And.intro gTI (And.intro (Exists.intro _ (Exists.intro _ gTO)) (And.intro (And.intro gi1 ⟨_, k1 _ _ g1, hc1, _, hd1⟩) (And.intro gi2 ⟨_, k1 _ _ g2, hc2, _, hd2⟩)))), ?_, ?_, ?_, ?_⟩, q⟩
  · rintro j vals ⟨x, y, hx, hy, rfl⟩
    obtain ⟨a, ha, ra⟩ := rs1.getV (i := j) (v := x) (by simpa using hx)
    obtain ⟨b, hb, rb⟩ := rs2.getV (i := j) (v := y) (by simpa using hy)
    refine ⟨[a, b], ?_, .cons ra (.cons rb .nil)⟩
    rw [List.getElem?_zipWith, ha, hb]
  · intro b hb
    simp only [List.mem_cons, List.not_mem_nil, or_false] at hb
    refine Heap.get?_none_of_le ?_
    rcases hb with rfl | rfl | rfl | rfl | rfl
    · rw [n3]; exact Nat.le_add_right _ _
    · rw [n1]; exact Nat.le_add_right _ _
    · rw [n2]; exact Nat.le_add_right _ _
    · exact Nat.le_refl _
    · rw [n0]; exact Nat.le_add_right _ _
  · intro b hb
    simp only [List.mem_cons, List.mem_append, List.not_mem_nil, or_false] at hb ⊢
    rcases hb with rfl | rfl | rfl | (rfl | rfl) | rfl | rfl
    · exact .inl (.inl rfl)
    · exact .inl (.inr (.inl rfl))
    · exact .inl (.inr (.inr (.inl rfl)))
    · exact .inl (.inr (.inr (.inr (.inl rfl))))
    · exact .inr (by rw [hz1]; simp)
    · exact .inl (.inr (.inr (.inr (.inr rfl))))
    · exact .inr (by rw [hz2]; simp)
  · rintro j h' ⟨hz, hTI, ⟨a, b, hTO⟩, ⟨⟨_, e1, _⟩, _⟩, ⟨⟨_, e2, _⟩, _⟩⟩ b hb
    simp only [List.mem_cons, List.not_mem_nil, or_false] at hb
    rcases hb with rfl | rfl | rfl | rfl | rfl
    · exact has_of hz
    · exact has_of hTI
    · exact has_of hTO
    · exact has_of e1
    · exact has_of e2
end
end Mine

end

noncomputable section
open PySem PySem.W PySem.Calls PyProof.Rows
set_option maxHeartbeats 1000000
namespace Mine

structure Room (A : Around) (n : Nat) : Prop where
  hd : A.handled = none
  dp : A.depth + 4 * n < 1000
  un : A.units + 10 * n + 100 < 9900
theorem room_lt {a a' n m c k e T : Nat} (h : m < n) (h2 : a' ≤ a + c) (hc : c ≤ k) (hu : a + k * n + e < T) : a' + k * m + e < T := by
  refine Nat.lt_of_le_of_lt (Nat.add_le_add_right ?_ e) hu
  refine Nat.le_trans (Nat.add_le_add_right (Nat.le_trans h2 (Nat.add_le_add_left hc a)) _) ?_
  rw [Nat.add_assoc, Nat.add_comm k, ← Nat.mul_succ]
  exact Nat.add_le_add_left (Nat.mul_le_mul_left k h) a
theorem Room.le {A : Around} {n m : Nat} (r : Room A n) (h : m ≤ n) : Room A m :=
  ⟨r.hd, Nat.lt_of_le_of_lt (Nat.add_le_add_left (Nat.mul_le_mul_left 4 h) _) r.dp, Nat.lt_of_le_of_lt (Nat.add_le_add_right (Nat.add_le_add_left (Nat.mul_le_mul_left 10 h) _) _) r.un⟩
theorem Room.make {A A' : Around} {n m : Nat} (r : Room A n) (h : m < n) (h1 : A'.handled = A.handled) (h2 : A'.depth ≤ A.depth + 2) (h3 : A'.units ≤ A.units + 5) : Room A' m :=
  ⟨h1.trans r.hd, room_lt (e := 0) h h2 (by decide) r.dp, room_lt h h3 (by decide) r.un⟩
theorem Room.deeper {A : Around} {n m : Nat} {env : Env} (r : Room A n) (h : m < n) : Room (A.deeper env) m := r.make h rfl (Nat.le_succ _) (Nat.le_add_right (A.units + 3) 2)
theorem Room.u {A : Around} {n k : Nat} (r : Room A n) (h : k ≤ 100) : A.units + k < cLine := Nat.lt_of_le_of_lt (Nat.add_le_add (Nat.le_add_right _ _) h) r.un
theorem Room.d0 {A : Around} {n : Nat} {env : Env} (r : Room A n) : (A.deeper env).units < cLine := r.u (k := 3) (by decide)
theorem Room.d1 {A : Around} {n : Nat} {env : Env} (r : Room A n) : (A.deeper env).units + 1 < cLine := r.u (k := 4) (by decide)
theorem Room.d64 {A : Around} {n : Nat} {env : Env} (r : Room A n) : (A.deeper env).units + 64 < cLine := r.u (k := 67) (by decide)
theorem Room.d65 {A : Around} {n : Nat} {env : Env} (r : Room A n) : (A.deeper env).units + 65 < cLine := r.u (k := 68) (by decide)
theorem Room.dh {A : Around} {n : Nat} {env : Env} (r : Room A n) : (A.deeper env).handled = none := r.hd
theorem Room.lim {A : Around} {n : Nat} (r : Room A n) : A.depth < recursionLimit := Nat.lt_of_le_of_lt (Nat.le_add_right _ _) r.dp

noncomputable def Less (σ' σ : Sto) : Prop := ∀ x, σ' x = none ∨ σ' x = σ x
theorem Less.refl (σ : Sto) : Less σ σ := fun _ => .inr rfl
theorem Less.put {σ σ' : Sto} {x : Str} {d : D} (h : Less σ σ') (hx : σ x = none) : Less σ (sput σ' x d) := fun y => by
  by_cases q : y = x
  · subst q; exact .inl hx
  · rcases h y with h | h
    · exact .inl h
    · exact .inr (by rw [h]; unfold sput; rw [if_neg q])
/-- a store that tells the names of a list -/
noncomputable def stoL (l : List (Str × D)) : Sto := fun x => l.lookup x

section
variable {X : Cx} {A : Around} {s s' s'' s₀ : Shared} {Z Z' : ZMap} {H H' : Hp} {env : Env} {σ σ' : Sto}

theorem tS.less {ss : List Stmt} {Q : Fl → Sto → Hp → Prop} (h : tS X A env ss σ' H Q) (l : Less σ' σ) : tS X A env ss σ H Q := fun s Z i => h s Z (i.less l)
theorem tT.less {e : Expr} {Q : Bool → Hp → Prop} (h : tT X A env e σ' H Q) (l : Less σ' σ) : tT X A env e σ H Q := fun s Z i => h s Z (i.less l)
theorem tA.mono {t : Expr} {d : D} {Q Q' : Sto → Hp → Prop} (h : tA X A env t d σ H Q) (m : ∀ σ H, Q σ H → Q' σ H) : tA X A env t d σ H Q' :=
  fun s Z v i r => wpAny_mono (h s Z v i r) (fun _ _ ⟨Z', H', σ', e, i, q⟩ => ⟨Z', H', σ', e, i, m _ _ q⟩) fun _ _ f => f
theorem tT.mono {e : Expr} {Q Q' : Bool → Hp → Prop} (h : tT X A env e σ H Q) (m : ∀ t H, Q t H → Q' t H) : tT X A env e σ H Q' :=
  fun s Z i => wpAny_mono (h s Z i) (fun _ _ ⟨Z', H', e, o, q⟩ => ⟨Z', H', e, o, m _ _ q⟩) fun _ _ f => f

abbrev loopQ (I : Sto → Hp → Prop) (Q : Fl → Sto → Hp → Prop) : Fl → Sto → Hp → Prop := fun f σ₂ H₂ => match f with
  | .next => I σ₂ H₂
  | .cont => I σ₂ H₂
  | .brk => Q .next σ₂ H₂
  | .ret d => Q (.ret d) σ₂ H₂
theorem LF_ind {target : Expr} {body : List Stmt} {Q : Fl → Sto → Hp → Prop} (I : List D → Sto → Hp → Prop) (nil : ∀ σ H, I [] σ H → Q .next σ H)
    (cons : ∀ d ds σ H, I (d :: ds) σ H → tA X A env target d σ H (fun σ₁ H₁ => tS X A env body σ₁ H₁ (loopQ (I ds) Q))) : ∀ (ds : List D) (σ : Sto) (H : Hp), I ds σ H → LF X A env target body Q ds σ H
  | [], σ, H, h => nil σ H h
  | d :: ds, σ, H, h => (cons d ds σ H h).mono fun σ₁ H₁ q => q.mono fun f σ₂ H₂ q => by
    cases f with
    | next => exact LF_ind I nil cons ds σ₂ H₂ q
    | cont => exact LF_ind I nil cons ds σ₂ H₂ q
    | brk => exact q
    | ret d => exact q
theorem LF_indA {target : Expr} {body : List Stmt} {Q : Fl → Sto → Hp → Prop} (I : List D → Sto → Hp → Prop) (nil : ∀ σ H, I [] σ H → Q .next σ H)
    (cons : ∀ (Q' : Fl → Sto → Hp → Prop) d ds σ H, I (d :: ds) σ H → tA X A env target d σ H (fun σ₁ H₁ => tS X A env body σ₁ H₁ (loopQ (I ds) Q'))) : ∀ (ds : List D) (σ : Sto) (H : Hp), I ds σ H → LF X A env target body Q ds σ H :=
  LF_ind I nil (cons Q)
theorem LC_ind {x : Str} {ifs : List Expr} {elt : Expr} {Q : List D → Hp → Prop} (I : List D → List D → Hp → Prop) (nil : ∀ acc H, I [] acc H → Q acc H)
    (cons : ∀ d ds acc H, I (d :: ds) acc H → tIfs X A env ifs (sput σ x d) H (fun ok H₂ => if ok then tE X A env elt (sput σ x d) H₂ (fun e H₃ => I ds (acc ++ [e]) H₃) else I ds acc H₂)) :
    ∀ (ds acc : List D) (H : Hp), I ds acc H → LC X A env x ifs elt σ Q ds acc H
  | [], acc, H, h => nil acc H h
  | d :: ds, acc, H, h => by
    have c := cons d ds acc H h
    unfold LC
    have step : ∀ (ok : Bool) H₂, (if ok = true then tE X A env elt (sput σ x d) H₂ (fun e H₃ => I ds (acc ++ [e]) H₃) else I ds acc H₂) →
        (if ok = true then tE X A env elt (sput σ x d) H₂ (fun e H₃ => LC X A env x ifs elt σ Q ds (acc ++ [e]) H₃) else LC X A env x ifs elt σ Q ds acc H₂) := fun ok H₂ q => by
      cases ok
      · exact LC_ind I nil cons ds acc H₂ q
      · exact tE.mono q fun e H₃ q => LC_ind I nil cons ds _ H₃ q
    match ifs, c with
    | [], c => exact step true _ c
    | [e], c => exact tT.mono c fun t H₂ q => step t H₂ q
theorem LW_ind {test : Expr} {body : List Stmt} {Q : Fl → Sto → Hp → Prop} (I : Nat → Sto → Hp → Prop)
    (step : ∀ n σ H, I n σ H → tT X A env test σ H (fun t H₁ => if t = true then tS X A env body σ H₁ (loopQ (fun σ₂ H₂ => ∃ m, m < n ∧ I m σ₂ H₂) Q) else Q .next σ H₁)) : ∀ (k n : Nat) (σ : Sto) (H : Hp), n < k → I n σ H → LW X A env test body Q k σ H
  | 0, n, σ, H, hk, _ => absurd hk (Nat.not_lt_zero _)
  | k + 1, n, σ, H, hk, h => by
    unfold LW
    refine tT.mono (step n σ H h) fun t H₁ q => ?_
    cases t with
    | false => exact q
    | true =>
      refine tS.mono (show tS X A env body σ H₁ _ from q) fun f σ₂ H₂ q => ?_
      cases f with
      | next => obtain ⟨m, hm, q⟩ := q; exact LW_ind I step k m σ₂ H₂ (by omega) q
      | cont => obtain ⟨m, hm, q⟩ := q; exact LW_ind I step k m σ₂ H₂ (by omega) q
      | brk => exact q
      | ret d => exact q
theorem keepK {f : Value} (h : keepIn X.K f = true) : KeepOk X f := .inl h
theorem tAs_cons {t : Expr} {ts : List Expr} {d : D} {ds : List D} {Q : Sto → Hp → Prop} (h : tA X A env t d σ H (fun σ₁ H₁ => tAs X A env ts ds σ₁ H₁ Q)) : tAs X A env (t :: ts) (d :: ds) σ H Q := h
theorem tAs_nil {Q : Sto → Hp → Prop} (h : Q σ H) : tAs X A env [] [] σ H Q := h
theorem tIf0 {Q : Bool → Hp → Prop} (h : Q true H) : tIfs X A env [] σ H Q := h
theorem tIf1 {c : Expr} {Q : Bool → Hp → Prop} (h : tT X A env c σ H Q) : tIfs X A env [c] σ H Q := h
noncomputable def bltT : List (Str × Value) := [("len", .builtin "len"), ("range", .type "range"), ("min", .builtin "min"), ("tuple", .type "tuple"), ("frozenset", .type "frozenset"), ("list", .type "list"), ("zip", .type "zip")]
theorem bltT_ok : ∀ p ∈ bltT, bootBuiltins p.1 = some p.2 ∧ p.1 ≠ "__name__" ∧ (p.1 == ("__debug__" : Str)) = false ∧ ∀ a, p.2 ≠ .ref a := by
  intro p hp
  simp only [bltT, List.mem_cons, List.not_mem_nil, or_false] at hp
  rcases hp with rfl | rfl | rfl | rfl | rfl | rfl | rfl <;> exact ⟨by kernel_rfl, by decide, by decide, fun _ q => by cases q⟩
theorem lookup_all {α β : Type} [BEq α] [LawfulBEq α] {P : α × β → Prop} : ∀ {l : List (α × β)} {x : α} {v : β}, (∀ p ∈ l, P p) → l.lookup x = some v → P (x, v)
  | [], _, _, _, e => by cases e
  | (y, w) :: l, x, v, h, e => by
    rw [List.lookup_cons] at e
    split at e
    · rename_i q; cases e; rw [LawfulBEq.eq_of_beq q]; exact h _ (.head _)
    · exact lookup_all (fun p m => h p (.tail _ m)) e
theorem tE_bltN {x : Str} {pos : Pos} {v : Value} {Q : D → Hp → Prop} (hl : env.kindOf x = some .globalImplicit) (e : nsIn X.K mainGlobals x = some none) (hv : bltT.lookup x = some v) (h : Q (.raw v) H) : tE X A env (.Name x pos) σ H Q :=
  have k := lookup_all bltT_ok hv
  tE_blt hl e k.1 k.2.1 h k.2.2.1
end
end Mine

end

noncomputable section
open PySem PySem.W PySem.Calls PyProof.Rows
set_option maxHeartbeats 1000000
namespace Mine
section
variable {X : Cx} {A : Around} {s s' s'' s₀ : Shared} {Z Z' : ZMap} {H H' : Hp} {env : Env} {σ σ' : Sto}

noncomputable def noSlice : Expr → Bool
  | .Slice .. => false
  | _ => true
theorem tE_SubN {o i : Expr} {pos : Pos} {Q : D → Hp → Prop} (hn : noSlice i = true) (h : tE X A env o σ H (fun a H₁ => tE X A env i σ H₁ (fun b H₂ => t2 X A (subscriptTail o i) a b H₂ Q))) :
    tE X A env (.Subscript o i pos) σ H Q := tE_Sub h
noncomputable def compOkB (scope : Scope) (env : Env) (x : Str) : Bool :=
  scope.kind == .function && scope.names.all (fun y => y.2 != .free || (env.cells.lookup y.1).isSome) && scope.names.all (fun y => y.2 != .cell) && scope.names.all (fun y => scope.names.lookup y.1 == some y.2) && scope.names.lookup x == some .local
theorem relabel_back {env : Env} {x : Str} : ∀ (names : List (Str × NameKind)), (names.map fun (n, k) => if (k == NameKind.free && env.scope.kind == .function && env.kindOf n == some .cell) then (n, NameKind.cell) else (n, k)).lookup x = some .local → names.lookup x = some .local
  | [], h => by simp at h
  | (n, k) :: r, h => by
    rw [List.map_cons] at h
    by_cases hc : (k == NameKind.free && env.scope.kind == .function && env.kindOf n == some .cell) = true
    · rw [show (match (n, k) with | (n, k) => if (k == NameKind.free && env.scope.kind == .function && env.kindOf n == some .cell) then (n, NameKind.cell) else (n, k)) = (n, NameKind.cell) from if_pos hc, List.lookup_cons] at h
      rw [List.lookup_cons]
      cases q : (x == n) with
      | true => rw [q] at h; cases h
      | false => rw [q] at h; exact relabel_back r h
    · rw [show (match (n, k) with | (n, k) => if (k == NameKind.free && env.scope.kind == .function && env.kindOf n == some .cell) then (n, NameKind.cell) else (n, k)) = (n, k) from if_neg hc, List.lookup_cons] at h
      rw [List.lookup_cons]
      cases q : (x == n) with
      | true => rw [q] at h; exact h
      | false => rw [q] at h; exact relabel_back r h
theorem clOf_mem {scope : Scope} {x : Str} : ∀ (l : List (Str × NameKind)) (cs : List (Str × Addr)), (∀ c, cs.lookup x = some c → (x, NameKind.free) ∈ scope.names) → (∀ y ∈ l, y ∈ scope.names) → ∀ c, (clOf scope env cs l).lookup x = some c → (x, NameKind.free) ∈ scope.names
  | [], cs, h, _, c, e => h c e
  | (n, k) :: r, cs, h, hs, c, e => by
    unfold clOf at e
    have hr := fun y hy => hs y (List.mem_cons_of_mem _ hy)
    split at e
    · rename_i hk
      split at e
      · refine clOf_mem r _ (fun c' e' => ?_) hr c e
        rw [List.lookup_cons] at e'
        cases q : (x == n) with
        | true => rw [eq_of_beq q]; have := hs _ List.mem_cons_self; rw [eq_of_beq hk] at this; exact this
        | false => rw [q] at e'; exact h c' e'
      · exact clOf_mem r _ h hr c e
    · exact clOf_mem r _ h hr c e
structure CompOk (scope : Scope) (env : Env) (x : Str) : Prop where
  kind : scope.kind = .function
  free : ∀ y ∈ scope.names, y.2 = .free → (env.cells.lookup y.1).isSome = true
  cell : ∀ y ∈ scope.names, y.2 ≠ .cell
  names : ∀ y ∈ scope.names, y.2 = .local → scope.names.lookup y.1 = some .local
  x : scope.names.lookup x = some .local
  loc : ∀ C x, (cEnv scope env C).kindOf x = some .local → (clOf scope env [] scope.names).lookup x = none
theorem compOk_of {scope : Scope} {x : Str} (h : compOkB scope env x = true) : CompOk scope env x := by
  unfold compOkB at h
  simp only [Bool.and_eq_true, List.all_eq_true, beq_iff_eq, Bool.or_eq_true, bne_iff_ne, ne_eq] at h
  obtain ⟨⟨⟨⟨h1, h2⟩, h3⟩, h4⟩, h5⟩ := h
  refine ⟨h1, fun y hy e => (h2 y hy).resolve_left (fun q => q e), h3, fun y hy e => by rw [h4 y hy, e], h5, fun C x e => ?_⟩
  have e' := relabel_back _ e
  cases q : (clOf scope env [] scope.names).lookup x with
  | none => rfl
  | some c =>
    have := clOf_mem (scope := scope) scope.names [] (fun c e => by simp at e) (fun y hy => hy) c q
    have := h4 _ this
    rw [this] at e'; cases e'
theorem tE_CompMB {elt iter : Expr} {x : Str} {px : Pos} {ifs : List Expr} {scope : Scope} {pos : Pos} {Q : D → Hp → Prop} (c : compOkB scope env x = true) (hs : ∀ x, foldedSetIterable iter env x = pure x)
    (h : tE X A env iter σ H (fun d H₁ => tIt X A d H₁ (fun ds => ds.length ≤ sizeLine ∧ ∀ C, LC X A (cEnv scope env C) x ifs elt (cSto scope env σ) (fun acc H₂ => acc.length ≤ ds.length → ∀ a, H₂ a = none → Q (.raw (.ref a)) (hput H₂ a (.lst acc))) ds [] H₁))) :
    tE X A env (.ListComp elt [⟨.Name x px, iter, ifs, 0⟩] scope pos) σ H Q :=
  let c := compOk_of c
  tE_CompM h c.kind c.free c.cell c.names c.x c.loc hs
theorem tE_CompB {elt iter : Expr} {x : Str} {px : Pos} {ifs : List Expr} {scope : Scope} {pos : Pos} {Q : D → Hp → Prop} (c : compOkB scope env x = true) (hs : ∀ x, foldedSetIterable iter env x = pure x)
    (h : tE X A env iter σ H (fun d H₁ => tIt X A d H₁ (fun ds => ds.length ≤ sizeLine ∧ ∀ C, LC X A (cEnv scope env C) x ifs elt (cSto scope env σ) (fun acc H₂ => acc.length ≤ ds.length → Q (.lst acc) H₂) ds [] H₁))) :
    tE X A env (.ListComp elt [⟨.Name x px, iter, ifs, 0⟩] scope pos) σ H Q :=
  let c := compOk_of c
  tE_Comp h c.kind c.free c.cell c.names c.x c.loc hs
theorem tX_AssignCompB {elt iter : Expr} {x y : Str} {px py : Pos} {ifs : List Expr} {scope : Scope} {pos cpos : Pos} {Q : Fl → Sto → Hp → Prop} (hy : env.kindOf y = some .local) (hcy : env.cells.lookup y = none) (c : compOkB scope env x = true) (hs : ∀ x, foldedSetIterable iter env x = pure x)
    (hsw : swapsWith (.ListComp elt [⟨.Name x px, iter, ifs, 0⟩] scope cpos) (some (.Name y py)) pos.line env = pure true)
    (h : tE X A env iter σ H (fun d H₁ => tIt X A d H₁ (fun ds => ds.length ≤ sizeLine ∧ ∀ C, LC X A (cEnv scope env C) x ifs elt (cSto scope env σ) (fun acc H₂ => acc.length ≤ ds.length → Q .next (sput σ y (.lst acc)) H₂) ds [] H₁))) :
    tX X A env (.Assign [.Name y py] (.ListComp elt [⟨.Name x px, iter, ifs, 0⟩] scope cpos) pos) σ H Q :=
  let c := compOk_of c
  tX_AssignComp hy hcy h c.kind c.free c.cell c.names c.x c.loc hsw hs

/-- a comprehension that turns nothing: keep those of p, tell g -/
theorem LC_pure {α : Type} {x : Str} {ifs : List Expr} {elt : Expr} {Q : List D → Hp → Prop} (f : α → D) (p : α → Bool) (g : α → D) {ls : List α} {ds : List D} (e : ds = ls.map f) (ht : ∀ a ∈ ls, tIfs X A env ifs (sput σ x (f a)) H (fun ok H₂ => H₂ = H ∧ ok = p a))
    (he : ∀ a ∈ ls, p a = true → tE X A env elt (sput σ x (f a)) H (fun e H₃ => H₃ = H ∧ e = g a)) (h : ((ls.filter p).map g).length ≤ ds.length → Q ((ls.filter p).map g) H) : LC X A env x ifs elt σ (fun acc H₂ => acc.length ≤ ds.length → Q acc H₂) ds [] H := by
  refine LC_ind (fun ds' acc H' => H' = H ∧ ∃ l1 l2, ls = l1 ++ l2 ∧ ds' = l2.map f ∧ acc = (l1.filter p).map g) ?_ ?_ _ _ _ ⟨rfl, [], ls, rfl, e, rfl⟩
  · rintro acc H' ⟨rfl, l1, l2, e1, e2, rfl⟩ hl
    cases l2 with
    | nil => rw [List.append_nil] at e1; subst e1; exact h hl
    | cons => cases e2
  · rintro d ds' acc H' ⟨rfl, l1, l2, e1, e2, rfl⟩
    cases l2 with
    | nil => cases e2
    | cons a l2 =>
      injection e2 with e2 e3
      subst e2
      have hm : a ∈ ls := by rw [e1]; simp
      have t := ht a hm
      have key : ∀ (ok : Bool) H₂, (H₂ = H' ∧ ok = p a) → (if ok = true then tE X A env elt (sput σ x (f a)) H₂ (fun e H₃ => H₃ = H' ∧ ∃ l1' l2', ls = l1' ++ l2' ∧ ds' = l2'.map f ∧ (l1.filter p).map g ++ [e] = (l1'.filter p).map g)
          else (H₂ = H' ∧ ∃ l1' l2', ls = l1' ++ l2' ∧ ds' = l2'.map f ∧ (l1.filter p).map g = (l1'.filter p).map g)) := by
        rintro ok H₂ ⟨rfl, rfl⟩
        refine itB (fun hp => ?_) (fun hp => ?_)
        · exact (he a hm hp).mono fun e H₃ ⟨q1, q2⟩ => ⟨q1, l1 ++ [a], l2, by rw [e1]; simp, e3, by rw [q2, List.filter_append, List.map_append]; simp [List.filter_cons, hp]⟩
        · exact ⟨rfl, l1 ++ [a], l2, by rw [e1]; simp, e3, by rw [List.filter_append]; simp [List.filter_cons, hp]⟩
      match ifs, t with
      | [], t => exact key _ _ t
      | [c], t => exact tT.mono t fun ok H₂ q => key _ _ q
end
theorem len0 {P : List Value → Prop} (h : P []) : ∀ vs : List Value, vs.length = 0 → P vs := fun vs e => by
  cases vs with
  | nil => exact h
  | cons _ _ => exact absurd e (Nat.succ_ne_zero _)
theorem lenS {n : Nat} {P : List Value → Prop} (h : ∀ v (vs : List Value), vs.length = n → P (v :: vs)) (vs : List Value) (e : vs.length = n + 1) : P vs := by
  cases vs with
  | nil => exact absurd e.symm (Nat.succ_ne_zero _)
  | cons v vs => exact h v vs (Nat.succ.inj e)
theorem len1 {P : List Value → Prop} (h : ∀ a, P [a]) : ∀ vs : List Value, vs.length = 1 → P vs := lenS fun a => len0 (P := fun vs => P (a :: vs)) (h a)
theorem len2 {P : List Value → Prop} (h : ∀ a b, P [a, b]) : ∀ vs : List Value, vs.length = 2 → P vs := lenS fun a => len1 (P := fun vs => P (a :: vs)) (h a)
theorem len3 {P : List Value → Prop} (h : ∀ a b c, P [a, b, c]) : ∀ vs : List Value, vs.length = 3 → P vs := lenS fun a => len2 (P := fun vs => P (a :: vs)) (h a)
theorem len5 {P : List Value → Prop} (h : ∀ a b c d e, P [a, b, c, d, e]) : ∀ vs : List Value, vs.length = 5 → P vs := lenS fun a => lenS (P := fun vs => P (a :: vs)) fun b => len3 (P := fun vs => P (a :: b :: vs)) (h a b)
theorem len6 {P : List Value → Prop} (h : ∀ a b c d e f, P [a, b, c, d, e, f]) : ∀ vs : List Value, vs.length = 6 → P vs := lenS fun a => len5 (P := fun vs => P (a :: vs)) (h a)
section
variable {X : Cx} {A : Around} {H : Hp} {env : Env} {σ : Sto}
theorem tE_CallG {x : Str} {args : List Expr} {px pos : Pos} {v : Value} {Q : D → Hp → Prop} (hl : env.kindOf x = some .globalImplicit) (e : nsIn X.K mainGlobals x = some (some v)) (hk : keepIn X.K v = true) (hs : args.all noStar = true)
    (h : tL X A env args σ H (fun ds H₂ => tC X A v ds H₂ Q)) (hd : (x == ("__debug__" : Str)) = false := by with_unfolding_all exact rfl)
    (he : eval (.Call (.Name x px) args [] pos) env = (do callWith pos (← eval (.Name x px) env) [] (backTo pos (starEach args env)) (backToKw pos (keywordEach [] env))) := by with_unfolding_all exact rfl) : tE X A env (.Call (.Name x px) args [] pos) σ H Q :=
  tE_Call hs (tE_glob hl e ⟨v, rfl, .inl hk, h⟩ hd) he
theorem tE_CallB {x : Str} {args : List Expr} {px pos : Pos} {v : Value} {Q : D → Hp → Prop} (hl : env.kindOf x = some .globalImplicit) (e : nsIn X.K mainGlobals x = some none) (hv : bltT.lookup x = some v) (hs : args.all noStar = true)
    (h : tL X A env args σ H (fun ds H₂ => tC X A v ds H₂ Q))
    (he : eval (.Call (.Name x px) args [] pos) env = (do callWith pos (← eval (.Name x px) env) [] (backTo pos (starEach args env)) (backToKw pos (keywordEach [] env))) := by with_unfolding_all exact rfl) : tE X A env (.Call (.Name x px) args [] pos) σ H Q :=
  tE_Call hs (tE_bltN hl e hv ⟨_, rfl, .inr (lookup_all bltT_ok hv).2.2.2, h⟩) he
end
end Mine

end

noncomputable section
open PySem PySem.W PySem.Calls PyProof.Rows
set_option maxHeartbeats 1000000
namespace Mine
section
variable {X : Cx} {A : Around} {s s' s'' s₀ : Shared} {Z Z' : ZMap} {H H' : Hp} {env : Env} {σ σ' : Sto}
theorem Small.setOk {bt : Bool} {es : Array (Int × Value)} {t : SetTable} {ks : List Nat} (h : Small bt es t ks) : SetOk X es t (ks.map fun n : Nat => (n : Int)) := by
  obtain ⟨⟨tok, rfl⟩, ⟨mask, finger, moves, rfl, hm⟩, hk⟩ := h
  refine ⟨els_small hk, fun i => ?_, ?_, tabOf_fits hk hm⟩
  · simp only [esOf, List.mem_map]
    constructor
    · rintro ⟨n, hn, rfl⟩; exact ⟨_, ⟨n, hn, rfl⟩, intKind_is _ _ _ _⟩
    · rintro ⟨_, ⟨n, hn, rfl⟩, he⟩
      exact ⟨n, hn, (intKind X.prog X.w).inj _ _ _ (intKind_is _ _ _ _) he⟩
  · rw [esOf_size]; have := subs3_len hk; omega
theorem Rep.s2f {v : Value} {ks : List Nat} (r : Rep X Z v (.sset ks)) : Rep X Z v (.fset (ks.map fun n : Nat => (n : Int))) := by
  cases r with
  | cont hz r => cases r with | sset e S => exact .cont hz (.fset e S.setOk)
theorem t2_inS0 {kd : D} {i : Int} {Q : D → Hp → Prop} (ek : kd = .int i) (h : Q (.bool false) H) : t2 X A (compareOp .In) kd (.sset []) H Q := fun s Z v u o r r' =>
  t2_inF (is := []) ek h s Z v u o r r'.s2f
theorem tC_list {ds : List D} {Q : D → Hp → Prop} (hz : ds.length ≤ sizeLine) (h : Q (.lst ds) H) : tC X A (.type "list") [.lst ds] H Q := fun s Z vs o r => by
  (obtain ⟨v, hv, r1⟩ := r.one); clear r; subst hv; have r := r1
  obtain ⟨l, vs, rfl, hl, rs⟩ := o.listAt r .z
  have e : vs.size = ds.length := by rw [← rs.length, Array.length_toList]
  obtain ⟨o', ho, hc, n, hd⟩ := isList_of_plain hl
  refine call_list_seq (hsz := by rw [e]; exact hz) l (.inl rfl) ho hc hd fun h' c' hk hD => ?_
  exact PE.newZ (tk := s.toks) o hk (get_size _) o.big hD (.lst rfl rs) h
theorem kC_defN {f : Addr} {oc dV kV doc pm cdv ct : Value} {od an : Option Addr} {osl : Array (Option Value)} {name qual : Str} {params : Arguments} {body : List Stmt} {scope : Scope} {ds : List D} {Q : D → Hp → Prop}
    (ho : X.K.lookup f = some ⟨oc, od, .func (fnOf name qual params body scope dV kV doc pm an cdv ct), osl⟩) (hcd : codeIn X.K cdv qual = true) (hroom : A.depth < recursionLimit)
    (hbind : ∀ s (vs : List Value), (∀ b o, X.base.get? b = some o → s.heap.get? b = some o) → vs.length = ds.length → BindsTo s (fnOf name qual params body scope dV kV doc pm an cdv ct) ⟨vs, []⟩ ((argNames params).zip (vs ++ [.none])))
    (hloc : ∀ x ∈ argNames params, scope.names.lookup x = some .local)
    (h : ∀ L, let e0 := envOf qual scope L f cdv; let A0 := A.deeper e0; tS X A0 e0 body (sto0 (argNames params) (ds ++ [.none])) H (retQ Q))
    (hcell : ∀ x ∈ scope.names, x.2 ≠ .cell) (hco : scope.isCoroutine = false := by rfl) (hgen : scope.isGenerator = false := by rfl) (hk : scope.kind = .function := by rfl) : kC X A (.ref f) ds H Q := fun s Z vs i r => by
  refine (codeAny_call_def (fd := fnOf name qual params body scope dV kV doc pm an cdv ct) (body := body) hroom (i.base _ _ (X.kin _ _ ho)) rfl (X.lim.keeps i.base) (codeRec_of (X.kin.keeps i.base) hcd) rfl
    (hbind s vs i.base r.length) hcell (fun x hx => hloc x.1 (List.of_mem_zip hx).1) (fun h₁ hns hk₁ => ?_) hco hgen hk)
  show wpAny _ (A.deeper (envOf qual scope s.heap.objs.size f cdv)) (execs body (envOf qual scope s.heap.objs.size f cdv)) _ _ _
  have hL : s.heap.get? s.heap.objs.size = none := Heap.get?_none_of_le (Nat.le_refl _)
  have e₁ : Ev s Z H nil { s with heap := h₁, toks := s.toks + ((argNames params).zip (vs ++ [.none])).length } Z H := .keeps hk₁
  have ok₁ := i.keeps (tk := s.toks + ((argNames params).zip (vs ++ [.none])).length) hk₁
  have i₁ : Inv X { s with heap := h₁, toks := s.toks + ((argNames params).zip (vs ++ [.none])).length } Z H (envOf qual scope s.heap.objs.size f cdv) (sto0 (argNames params) (ds ++ [.none])) := by
    refine ⟨ok₁, ⟨hk, rfl, rfl, fun _ _ _ e => (by cases e), fun _ _ e => (by cases e)⟩, ⟨_, hns, fun x _ => lookup_rep (r.append (.cons .none .nil)) x⟩, fun x c e => (by cases e), fun a ha => ?_⟩
    rcases ha with rfl | ⟨x, e⟩
    · exact ⟨i.none_z hL, i.none_h hL, i.none_b hL⟩
    · cases e
  refine wpAny_mono (h _ _ Z i₁) (fun fl s₂ p => ?_) fun _ _ f => f.elim
  obtain ⟨Z₂, H₂, σ₂, f', e₂, i₂, r₂, H₃, hs, q⟩ := p
  have e₃ : Ev s Z H nil s₂ Z₂ H₃ := (e₁.leave e₂ fun a ha => by
    rcases ha with rfl | ⟨x, e⟩
    · exact hL
    · cases e).forget hs
  refine ⟨Z₂, H₃, retD f', e₃, i₂.ok.forget hs, ?_, q⟩
  cases r₂ with
  | ret r => exact r
  | _ => exact .none
/-- a dict that an object holds is frozen -/
theorem tS_freezeN {ss : List Stmt} {dx b : Addr} {i : Nat} {names : List Str} {ds : List D} {d : D} {Q : Fl → Sto → Hp → Prop} (hd : H dx = some (.ns names ds)) (hi : ds[i]? = some (.raw (.ref b))) (hb : H b = some d) (hne : b ≠ dx)
    (h : tS X A env ss σ (hput (hdel H b) dx (.ns names (ds.set i d))) Q) : tS X A env ss σ H Q := fun s Z iv => by
  obtain ⟨o, ho, r, hz, ok'⟩ := iv.ok.freeze hb
  have e₁ : Ev s Z H nil s (zput Z b o) (hdel H b) := Ev.freeze hb hz
  have i₁ := iv.step e₁ ok'
  have hdx : hdel H b dx = some (.ns names ds) := by rw [hdel_ne (Ne.symm hne)]; exact hd
  obtain ⟨ox, hox, rx⟩ := ok'.h _ _ hdx
  have rx' : ORep X (zput Z b o) ox (.ns names (ds.set i d)) := by
    cases rx with
    | @ns es n _ _ hn rs =>
      refine .ns hn ?_
      have hv := rs.get hi
      obtain ⟨v, hv, rv⟩ := hv
      have e : v = .ref b := rv.raw_eq
      subst e
      have : (es.map (·.val)) = (es.map (·.val)).set i (.ref b) := by
        refine (List.ext_getElem? fun j => ?_)
        rw [List.getElem?_set]
        by_cases q : i = j
        · subst q
          have hlt := (List.getElem?_eq_some_iff.mp hv).1
          rw [if_pos rfl, if_pos hlt, hv]
        · rw [if_neg q]
      rw [this]
      exact rs.set (.cont zput_self (r.mono (zput_le hz)))
  have hs := ok'.sep dx (by rw [hdx]; simp)
  have ok2 : Ok X s (zput Z b o) (hput (hdel H b) dx (.ns names (ds.set i d))) := by
    refine ⟨ok'.base, ok'.z, fun a d' e => ?_, fun a ha => ?_, fun a ha => ?_⟩
    · by_cases q : a = dx
      · subst q; rw [hput_self] at e; cases e; exact ⟨ox, hox, rx'⟩
      · rw [hput_ne q] at e; exact ok'.h a d' e
    · by_cases q : a = dx
      · subst q; exact hs
      · rw [hput_ne q] at ha; exact ok'.sep a ha
    · by_cases q : a = dx
      · subst q; exact ok'.low a (.inr (by rw [hdx]; simp))
      · rw [hput_ne q] at ha; exact ok'.low a ha
  have e₂ : Ev s (zput Z b o) (hdel H b) nil s (zput Z b o) (hput (hdel H b) dx (.ns names (ds.set i d))) :=
    ⟨⟨_, _, rfl⟩, fun _ _ e _ _ => e, fun _ e => e, .refl _, fun _ e _ _ => e, fun a h1 _ => by
      rw [hput_ne (by rintro rfl; rw [hdx] at h1; cases h1)]; exact h1⟩
  have i₂ := i₁.step e₂ ok2
  exact wpAny_mono (h s _ i₂) (fun fl s₁ p => p.trans (e₁.trans e₂).any) fun _ _ f => f
end
end Mine

end

noncomputable section
open PySem PySem.W PySem.Calls PyProof.Rows
set_option maxHeartbeats 1000000
namespace Mine
section
variable {X : Cx} {A : Around} {s s' s'' : Shared} {Z Z' : ZMap} {H H' : Hp} {env : Env} {σ σ' : Sto}
/-- what a comprehension of two clauses does -/
noncomputable def LC2 (X : Cx) (A : Around) (env : Env) (x y : Str) (it2 elt : Expr) (σ : Sto) (Q : List D → Hp → Prop) : List D → List D → Hp → Prop
  | [], acc, H => Q acc H
  | d :: ds, acc, H => tE X A env it2 (sput σ x d) H (fun d2 H₂ => tIt X A d2 H₂ (fun es => acc.length + es.length ≤ sizeLine ∧ LC X A env y [] elt (sput σ x d) (fun acc' H₃ => LC2 X A env x y it2 elt σ Q ds acc' H₃) es acc H₂))
theorem compStart1 {elt : Expr} {c1 c2 : Comprehension} {scope : Scope} {pos : Pos} {it acc : Value} {R : Result → Shared → Prop} (hc : c2.is_async = 0)
    (h0 : codeAny X.M A (.compLoop (.ListComp elt [c1, c2] scope pos) 1 it acc env) R s)
    (h : wpAny X.M A (pyIter it) (fun it' s' => codeAny X.M A (.compLoop (.ListComp elt [c1, c2] scope pos) 1 it' acc env) R s') No s) :
    codeAny X.M A (.compStart (.ListComp elt [c1, c2] scope pos) 1 it acc env) R s := by
  obtain ⟨t2, i2, ifs2, as⟩ := c2
  have hc : as = 0 := hc
  subst hc
  refine codeAny_of_tree ?_
  show wpAny _ _ ((compStart (.ListComp elt [c1, ⟨t2, i2, ifs2, 0⟩] scope pos) 1 it acc env).onRaise (fun x => do noteFrame x env; standAt theWindowsPlace)) _ _ s
  refine wpAny_notedAt ?_
  unfold compStart
  show wpAny _ _ (ask >>= _) _ _ s
  refine wpAny_bind (wpAny_askSetting (wpAny_ite ?_))
  split
  · first
      | exact wpAny_bind (wpAny_pure (wpAny_pure (And.intro rfl h0)))
      | exact wpAny_pure (And.intro rfl h0)
  · refine wpAny_bind (wpAny_rule ?_)
    show wpAny _ _ (standAt i2.pos >>= _) _ _ s
    exact wpAny_bind (wpAny_standAt (wpAny_bind (wpAny_mono h (fun it' s' h' => wpAny_pure (And.intro rfl h')) fun _ _ x => x.elim)))
theorem turn2_0 (elt t1 i1 t2 i2 : Expr) (scope : Scope) (pos : Pos) (it acc : Value) (env : Env) : compTurn (.ListComp elt [⟨t1, i1, [], 0⟩, ⟨t2, i2, [], 0⟩] scope pos) 0 it acc env = (do
      standAt i1.pos
      match ← pyNext it with
      | none => pure (.done .next)
      | some v =>
        letOwnedTupleGo t1 it v
        assign t1 env v
        let mut ok := true
        for c in [] do
          if ok then ok ← isTrue c env (eval c env)
        if ok then (do
          let x ← eval i2 env
          standAt i2.pos
          let x ← foldedSetIterable i2 env x
          let _ ← runOwn (.compStart (.ListComp elt [⟨t1, i1, [], 0⟩, ⟨t2, i2, [], 0⟩] scope pos) 1 (← holding [x] (pyIter x)) acc env) env)
        again (.compLoop (.ListComp elt [⟨t1, i1, [], 0⟩, ⟨t2, i2, [], 0⟩] scope pos) 0 it acc env)) := by
  show (standAt i1.pos >>= fun _ => pyNext it >>= _) = (standAt i1.pos >>= fun _ => pyNext it >>= _)
  congr 1; funext _; congr 1; funext r
  cases r with
  | none => rfl
  | some v =>
    show (letOwnedTupleGo t1 it v >>= fun _ => assign t1 env v >>= fun _ => _) = (letOwnedTupleGo t1 it v >>= fun _ => assign t1 env v >>= fun _ => _)
    congr 1; funext _; congr 1; funext _
    simp only [List.forIn_nil, pure_bind, bind_assoc, if_true]
    rfl
theorem turn2_1 (elt t1 i1 t2 i2 : Expr) (scope : Scope) (pos : Pos) (it acc : Value) (env : Env) : compTurn (.ListComp elt [⟨t1, i1, [], 0⟩, ⟨t2, i2, [], 0⟩] scope pos) 1 it acc env = (do
      standAt i2.pos
      match ← pyNext it with
      | none => pure (.done .next)
      | some v =>
        letOwnedTupleGo t2 it v
        assign t2 env v
        let mut ok := true
        for c in [] do
          if ok then ok ← isTrue c env (eval c env)
        if ok then (do let _ ← call (.builtin "list.append") [acc, ← eval elt env])
        again (.compLoop (.ListComp elt [⟨t1, i1, [], 0⟩, ⟨t2, i2, [], 0⟩] scope pos) 1 it acc env)) := by rfl

/-- two clauses -/
theorem comp_loop2 {elt i1 i2 : Expr} {x y : Str} {px py : Pos} {scope : Scope} {pos : Pos} {I : Addr} {fp wr : List Addr} {P : Nat → Value → Prop} {St : Nat → Heap → Prop} {ds acc₀ : List D} {s₀ : Shared} {Z₀ : ZMap} {H₀ : Hp} {Dl : Addr} {R : Result → Shared → Prop} {Q : List D → Hp → Prop}
    (hl : env.kindOf x = some .local) (hcl : env.cells.lookup x = none) (hly : env.kindOf y = some .local) (hcly : env.cells.lookup y = none) (hσy : σ y = none)
    (hs : ∀ x, foldedSetIterable i2 env x = pure x)
    (W : Walks X.prog X.w A I fp wr ds.length P St) (hst : St 0 s.heap) (hP : ∀ i v, P i v → ∃ d, ds[i]? = some d ∧ Rep X Z v d)
    (hwr : ∀ b ∈ wr, s₀.heap.get? b = none ∧ Z b = none ∧ H b = none ∧ X.base.get? b = none ∧ ¬ ownA env b ∧ b ≠ Dl) (hfp : ∀ b ∈ fp, (b ∈ wr ∨ Z b ≠ none) ∧ b ≠ Dl ∧ b ≠ env.locals) (hhas : ∀ i h', St i h' → ∀ b ∈ wr, h'.get? b ≠ none)
    (hσ : ∀ z, z ≠ x → σ z = none ∨ σ z = σ' z) (c : CS X s₀ Z₀ H₀ env σ' Dl s Z H acc₀) (h : LC2 X A env x y i2 elt σ Q ds acc₀ H)
    (hR : ∀ s' Z' H' σ'' acc, CS X s₀ Z₀ H₀ env σ'' Dl s' Z' H' acc → Q acc H' → R (.ok .next) s') :
    codeAny X.M A (.compLoop (.ListComp elt [⟨.Name x px, i1, [], 0⟩, ⟨.Name y py, i2, [], 0⟩] scope pos) 0 (.ref I) (.ref Dl) env) R s := by
  refine compLoop_gen (fun n s' => ∃ j Z' H' σ'' acc, j ≤ ds.length ∧ n = ds.length + 1 - j ∧ CS X s₀ Z₀ H₀ env σ'' Dl s' Z' H' acc ∧ (∀ z, z ≠ x → σ z = none ∨ σ z = σ'' z) ∧ ZLe Z Z' ∧
    (∀ b ∈ wr, Z' b = none ∧ H' b = none) ∧ St j s'.heap ∧ LC2 X A env x y i2 elt σ Q (ds.drop j) acc H') (turn2_0 _ _ _ _ _ _ _ _ _ _) rfl rfl rfl ?_ (ds.length + 1)
    ⟨0, Z, H, σ', acc₀, Nat.zero_le _, rfl, c, hσ, .refl _, fun b hb => ⟨(hwr b hb).2.1, (hwr b hb).2.2.1⟩, hst, h⟩
  rintro n s₂ ⟨j, Z₂, H₂, σ₂, acc, hj, rfl, c₂, hσ₂, hzle, hw, hst₂, q₂⟩
  have hw₂ : ∀ b ∈ wr, Z₂ b = none ∧ H₂ b = none ∧ X.base.get? b = none ∧ ¬ ownA env b ∧ s₀.heap.get? b = none ∧ b ≠ Dl := fun b hb => ⟨(hw b hb).1, (hw b hb).2, (hwr b hb).2.2.2.1, (hwr b hb).2.2.2.2.1, (hwr b hb).1, (hwr b hb).2.2.2.2.2⟩
  by_cases hlt : j < ds.length
  · refine W.item j s₂ _ _ hlt hst₂ fun v h' tk hv hst₃ hk => ?_
    obtain ⟨dj, hdj, rv⟩ := hP j v hv
    have c₃ := c₂.wr (tk := tk) hw₂ hk
    rw [List.drop_eq_getElem_cons hlt] at q₂
    have hdj' : ds[j] = dj := by rw [List.getElem?_eq_getElem hlt] at hdj; exact Option.some.inj hdj
    rw [hdj'] at q₂
    have go : ∀ {s₄ : Shared} {Z₄ : ZMap} {H₄ : Hp}, Ev { s₂ with heap := h', toks := tk } Z₂ H₂ (fun a => a = Dl ∨ a = env.locals) s₄ Z₄ H₄ → St (j + 1) s₄.heap ∧ ∀ b ∈ wr, Z₄ b = none ∧ H₄ b = none := fun e => by
      refine ⟨W.frame _ _ _ hst₃ fun b hb o ho => ?_, fun b hb => ⟨e.znew b (hw b hb).1 (hw b hb).2 (hhas _ _ hst₃ b hb), e.hnew b (hw b hb).2 (hhas _ _ hst₃ b hb)⟩⟩
      refine e.keep b o ho ?_ ?_
      · rcases (hfp b hb).1 with q | q
        · exact (hw b q).2
        · cases w : H₂ b with
          | none => rfl
          | some d' =>
            have := (c₂.inv.ok.sep b (by rw [w]; simp)).1
            cases w' : Z b with
            | none => exact absurd w' q
            | some o' => rw [hzle b o' w'] at this; cases this
      · rintro (q | q)
        · exact (hfp b hb).2.1 q
        · exact (hfp b hb).2.2 q
    refine c₃.assign hl hcl (rv.mono hzle) fun h₄ tk₄ c₄ e₄ => ?_
    have c₄' := c₄.sto hσ₂
    refine wpAny_tests_nil ?_
    rw [if_pos rfl]
    refine wpAny_bind (wpAny_mono (q₂ _ _ c₄'.inv) (fun v2 s₅ p => ?_) fun _ _ f => f)
    obtain ⟨Z₅, H₅, d2, e₅, o₅, r₅, q₅⟩ := p
    have c₅ := c₄'.step e₅ o₅
    refine wpAny_bind (wpAny_standAt (wpAny_bind (wpAny_of_eq (hs v2) (wpAny_bind (wpAny_holding (wpAny_mono (q₅ s₅ Z₅ v2 o₅ r₅) (fun it s₆ p => ?_) fun _ _ f => f))))))
    obtain ⟨es, e₆, o₆, it_, hz, q₆⟩ := p
    obtain ⟨I2, fp2, wr2, P2, St2, rfl, W2, hst6, hP2, hwr2, hfp2, hhas2⟩ := it_
    have c₆ := c₅.step e₆ o₆
    have old6 : ∀ b, (∃ ob, s₅.heap.get? b = some ob) → b ∉ wr2 := fun b ⟨ob, e⟩ hb => by rw [hwr2 b hb] at e; cases e
    have hDl5 : ∃ ob, s₅.heap.get? Dl = some ob := by obtain ⟨vs, ⟨ol, hol⟩, _⟩ := c₅.lst; exact ⟨_, hol⟩
    have own5 : ∀ b, ownA env b → ∃ ob, s₅.heap.get? b = some ob := fun b hb => by
      cases w : s₅.heap.get? b with
      | none => exact absurd w (c₅.inv.has hb)
      | some ob => exact ⟨_, rfl⟩
    have w0 : ∀ b, s₅.heap.get? b = none → s₀.heap.get? b = none := fun b hb => c₅.ev.grow b hb
    have loop : codeAny X.M A (.compLoop (.ListComp elt [⟨.Name x px, i1, [], 0⟩, ⟨.Name y py, i2, [], 0⟩] scope pos) 1 (.ref I2) (.ref Dl) env)
        (fun r s' => match r with | .ok f => ∃ m, m < ds.length + 1 - j ∧ ∃ j Z' H' σ'' acc, j ≤ ds.length ∧ m = ds.length + 1 - j ∧ CS X s₀ Z₀ H₀ env σ'' Dl s' Z' H' acc ∧ (∀ z, z ≠ x → σ z = none ∨ σ z = σ'' z) ∧ ZLe Z Z' ∧
    (∀ b ∈ wr, Z' b = none ∧ H' b = none) ∧ St j s'.heap ∧ LC2 X A env x y i2 elt σ Q (ds.drop j) acc H' | .error e => cameBackBy X.M A env No e s') s₆ := by
      refine comp_loop1 (s₀ := s₀) (s₁ := s₅) (Z₁ := Z₅) (H₁ := H₅) (turn2_1 _ _ _ _ _ _ _ _ _ _) rfl rfl rfl hly hcly hz W2 hst6 hP2 (fun b hb => ⟨w0 b (hwr2 b hb), hwr2 b hb, o₅.none_z (hwr2 b hb), o₅.none_h (hwr2 b hb), o₅.none_b (hwr2 b hb), fun q => old6 b (own5 b q) hb, fun q => old6 b (q ▸ hDl5) hb⟩)
        (fun b hb => ⟨hfp2 b hb, ?_, ?_⟩) hhas2 (fun z hz => .inr rfl) c₆ e₆.any q₆ fun s' Z' H' σ'' acc' c' hσ' hlen' e' q' => ?_
      · rintro rfl
        rcases hfp2 b hb with q | q
        · exact old6 b hDl5 q
        · exact q c₅.free.1
      · rintro rfl
        rcases hfp2 _ hb with q | q
        · exact old6 _ (own5 _ (.inl rfl)) q
        · exact q (c₅.inv.own _ (.inl rfl)).1
      · have e46 := (e₄.trans e₅.any).trans e'
        refine ⟨_, by omega, j + 1, Z', H', σ'', acc', hlt, rfl, c', fun z hz => ?_, hzle.trans e46.zle, (go e46).2, (go e46).1, q'⟩
        by_cases hzy : z = y
        · subst hzy; exact .inl hσy
        · have := hσ' z hzy
          rw [show sput σ x dj z = σ z from by simp [sput, hz]] at this
          exact this
    refine wpAny_bind (wpAny_runOwn ?_)
    exact codeAny_mono (compStart1 rfl loop (W2.self 0 _ _ _ hst6 loop)) fun r s' hr => by
      cases r with
      | ok f => exact wpAny_pure hr
      | error e => exact hr
  · have hj' : j = ds.length := by omega
    subst hj'
    rw [List.drop_length] at q₂
    refine W.done s₂ _ _ hst₂ fun h' tk hk => ?_
    exact hR _ Z₂ H₂ σ₂ acc (c₂.wr (tk := tk) hw₂ hk) q₂
end
end Mine

end

noncomputable section
open PySem PySem.W PySem.Calls PyProof.Rows
set_option maxHeartbeats 1000000
namespace Mine
section
variable {X : Cx} {A : Around} {s s' s'' : Shared} {Z Z' : ZMap} {H H' : Hp} {env : Env} {σ σ' : Sto}
/-- the list of a comprehension of two clauses is made -/
theorem comp_block2 {elt iter i2 : Expr} {x y : Str} {px py : Pos} {scope : Scope} {pos : Pos} {it : Value} {s₁ s₂ : Shared} {ds : List D} {RR : Value → Addr → Result → Shared → Prop} {Q : List D → Hp → Prop}
    (hk : scope.kind = .function) (hcell : ∀ y ∈ scope.names, y.2 ≠ .cell) (hx : scope.names.lookup x = some .local) (hy : scope.names.lookup y = some .local) (hs2 : ∀ C x, foldedSetIterable i2 (cEnv scope env C) x = pure x) (hloc : ∀ C x, (cEnv scope env C).kindOf x = some .local → (clOf scope env [] scope.names).lookup x = none)
    (i₁ : Inv X s₁ Z H env σ) (e₂ : Ev s₁ Z H nil s₂ Z H) (o₂ : Ok X s₂ Z H) (it_ : ItOk X A s₁ it s₂ Z ds) 
    (h : ∀ C, LC2 X A (cEnv scope env C) x y i2 elt (cSto scope env σ) Q ds [] H)
    (hRR : ∀ Dl C s' Z' H' acc, Ev s₁ Z H nil s' Z' H' → Ok X s' Z' H' → (∃ vs, s'.heap.PlainList Dl vs ∧ Reps X Z' vs.toList acc) → Z' Dl = none ∧ H' Dl = none ∧ X.base.get? Dl = none ∧ s₁.heap.get? Dl = none ∧ sysModules < Dl → Z' C = none ∧ H' C = none ∧ X.base.get? C = none ∧ s₁.heap.get? C = none → Dl ≠ C →
      (∃ m, s'.heap.Ns C m) → Q acc H' → RR (.ref Dl) C (.ok .next) s') :
    wpAny X.M A (newList []) (fun acc s₃ => wpAny X.M A (newFunctionEnv scope env.globals (clOf scope env [] scope.names) [] env.qual none .none (some env)) (fun cenv s₄ =>
      codeAny X.M A (.compStart (.ListComp elt [⟨.Name x px, iter, [], 0⟩, ⟨.Name y py, i2, [], 0⟩] scope pos) 0 it acc { cenv with scope := relabel scope env }) (RR acc cenv.locals) s₄) No s₃) No s₂ := by
  obtain ⟨I, fp, wr, P, St, rfl, W, hst, hP, hwr, hfp, hhas⟩ := it_
  have i₂ := i₁.step e₂ o₂
  refine wpAny_newObj_type (wpAny_newFunctionEnv hcell (by intro y hy; simp at hy) (fun h₁ hns₁ hsb₁ => ?_) hk)
  dsimp only at hns₁ hsb₁ ⊢
  generalize hH2 : s₂.heap.push { cls := .type "list", dict := none, data := .seq ([] : List Value).toArray } = H2 at hns₁ hsb₁ ⊢
  have hC : H2.objs.size = s₂.heap.objs.size + 1 := by rw [← hH2, Heap.size_push]
  have hDn : s₂.heap.get? s₂.heap.objs.size = none := Heap.get?_none_of_le (Nat.le_refl _)
  have hCn : s₂.heap.get? H2.objs.size = none := Heap.get?_none_of_le (by rw [hC]; exact Nat.le_succ _)
  have hDC : s₂.heap.objs.size ≠ H2.objs.size := by rw [hC]; exact Nat.ne_of_lt (Nat.lt_succ_self _)
  have hD₁ := e₂.grow _ hDn
  have hC₁ := e₂.grow _ hCn
  have old : ∀ b o, s₂.heap.get? b = some o → h₁.get? b = some o := fun b o e => by
    refine hsb₁.extBut b o (fun q => ?_) (Heap.get?_push_of_some _ (hH2 ▸ Heap.get?_push_of_some _ e))
    rw [q, hCn] at e; cases e
  have hacc : h₁.PlainList s₂.heap.objs.size #[] := ⟨_, hsb₁.extBut _ _ hDC (Heap.get?_push_of_some _ (hH2 ▸ Heap.get?_push_size _ rfl))⟩
  have hst₁ : St 0 h₁ := W.frame _ _ _ hst fun b _ o e => old b o e
  have e₃ : Ev s₁ Z H nil { s₂ with heap := h₁, toks := s₂.toks + ([] : List (Str × Value)).length } Z H := e₂.trans (.keeps old)
  have ci : Inv X { s₂ with heap := h₁, toks := s₂.toks + ([] : List (Str × Value)).length } Z H (cEnv scope env H2.objs.size) (cSto scope env σ) :=
    cEnv_inv i₂ hk hCn old (by simpa using hns₁) (hloc _)
  have hown : ∀ a, ownA (cEnv scope env H2.objs.size) a → a = H2.objs.size ∨ ownA env a := fun a ha => by
    rcases ha with rfl | ⟨y, e⟩
    · exact .inl rfl
    · exact .inr (.inr ⟨y, clOf_sub _ _ (fun _ _ e => by cases e) y a e⟩)
  have cs : CS X s₁ Z H (cEnv scope env H2.objs.size) (cSto scope env σ) s₂.heap.objs.size { s₂ with heap := h₁, toks := s₂.toks + ([] : List (Str × Value)).length } Z H [] := by
    refine ⟨e₃, ci, ⟨#[], hacc, .nil⟩, ⟨o₂.none_z hDn, o₂.none_h hDn, o₂.none_b hDn, hD₁, fun q => ?_⟩, hC₁⟩
    rcases hown _ q with q | q
    · exact hDC q
    · exact i₂.has q hDn
  have hb : ∀ b ∈ fp, s₂.heap.get? b ≠ none := fun b hb => by
    rcases hfp b hb with q | q
    · exact hhas _ _ hst b q
    · cases w : Z b with
      | none => exact absurd w q
      | some o => rw [o₂.z b o w]; simp
  have hwn : ∀ b ∈ wr, s₂.heap.get? b ≠ none := fun b hb => hhas _ _ hst b hb
  have loop : codeAny X.M A (.compLoop (.ListComp elt [⟨.Name x px, iter, [], 0⟩, ⟨.Name y py, i2, [], 0⟩] scope pos) 0 (.ref I) (.ref s₂.heap.objs.size) (cEnv scope env H2.objs.size)) (RR (.ref s₂.heap.objs.size) H2.objs.size)
      { s₂ with heap := h₁, toks := s₂.toks + ([] : List (Str × Value)).length } := by
    refine comp_loop2 (s₀ := s₁) (lookup_relabel_local hx) (hloc H2.objs.size x (lookup_relabel_local hx)) (lookup_relabel_local hy) (hloc H2.objs.size y (lookup_relabel_local hy)) (by unfold cSto; rw [hloc H2.objs.size y (lookup_relabel_local hy)]) (hs2 _)
      W hst₁ hP (fun b hb => ?_) (fun b hbf => ⟨hfp b hbf, fun q => hb b hbf (q ▸ hDn), fun q => hb b hbf (q ▸ hCn)⟩) hhas (fun _ _ => .inr rfl) cs (h _) fun s' Z' H' σ'' acc c q => ?_
    · refine ⟨hwr b hb, i₁.ok.none_z (hwr b hb), i₁.ok.none_h (hwr b hb), i₁.ok.none_b (hwr b hb), fun q => ?_, fun q => hwn b hb (q ▸ hDn)⟩
      rcases hown _ q with q | q
      · exact hwn b hb (q ▸ hCn)
      · exact i₁.has q (hwr b hb)
    · obtain ⟨m, hm, _⟩ := c.inv.loc
      have hCo := c.inv.own H2.objs.size (.inl rfl)
      exact hRR _ _ s' Z' H' acc c.ev c.inv.ok c.lst ⟨c.free.1, c.free.2.1, c.free.2.2.1, hD₁, o₂.big⟩ ⟨hCo.1, hCo.2.1, hCo.2.2, hC₁⟩ hDC ⟨m, hm⟩ q
  rw [show ({ newEnv scope H2.objs.size env.globals (clOf scope env [] scope.names) env.qual none .none (some env) builtinsNs with scope := relabel scope env } : Env) = cEnv scope env H2.objs.size from rfl]
  exact codeAny_compStart_list loop (W.self 0 _ _ _ hst₁ loop)

theorem tE_Comp2 {elt iter i2 : Expr} {x y : Str} {px py : Pos} {scope : Scope} {pos : Pos} {Q : D → Hp → Prop} (c : compOkB scope env x = true) (cy : compOkB scope env y = true) (hs : ∀ x, foldedSetIterable iter env x = pure x) (hs2 : ∀ C x, foldedSetIterable i2 (cEnv scope env C) x = pure x)
    (h : tE X A env iter σ H (fun d H₁ => tIt X A d H₁ (fun ds => ∀ C, LC2 X A (cEnv scope env C) x y i2 elt (cSto scope env σ) (fun acc H₂ => Q (.lst acc) H₂) ds [] H₁))) :
    tE X A env (.ListComp elt [⟨.Name x px, iter, [], 0⟩, ⟨.Name y py, i2, [], 0⟩] scope pos) σ H Q := fun s Z i => by
  have hc := compOk_of c
  rw [eval_ListComp]
  refine wpAny_comprehension_free (use := none) (Q := PE X s Z H Q) rfl hs (closureFor_of hc.free) hc.kind hc.names (wpAny_mono (h s Z i) (fun xv s₁ p => ?_) fun _ _ f => f)
  obtain ⟨Z₁, H₁, d, e₁, o₁, r₁, q₁⟩ := p
  refine wpAny_mono (q₁ s₁ Z₁ xv o₁ r₁) (fun it s₂ p => ?_) fun _ _ f => f
  obtain ⟨ds, e₂, o₂, it_, q₂⟩ := p
  refine comp_block2 (RR := fun acc C => compPost X.M A No none (PE X s Z H Q) acc C) hc.kind hc.cell hc.x (compOk_of cy).x hs2 hc.loc (i.step e₁ o₁) e₂ o₂ it_ q₂ fun Dl C s' Z' H' acc ev ok ⟨vs, hl, rs⟩ hD hC hDC ⟨m, hm⟩ q => ?_
  refine ⟨m, hm, fun h' hsb => ?_⟩
  have k : ∀ b o, b ∉ [C] → s'.heap.get? b = some o → h'.get? b = some o := fun b o hb e => hsb.extBut b o (by simpa using hb) e
  have ok' : Ok X { s' with heap := h' } Z' H' := ok.wr (wr := [C]) (tk := s'.toks) (fun b hb => by rw [List.mem_singleton.mp hb]; exact ⟨hC.1, hC.2.1, hC.2.2.1⟩) k
  have ev' : Ev s₁ Z₁ H₁ nil { s' with heap := h' } Z' H' := ev.wr (wr := [C]) (tk := s'.toks) (fun b hb => by rw [List.mem_singleton.mp hb]; exact hC.2.2.2) k
  obtain ⟨n, hol⟩ := hl
  have hol' : ({ s' with heap := h' } : Shared).heap.get? Dl = some _ := k _ _ (by simpa using hDC) hol
  have ok2 := ok'.adopt hol' (.lst rfl rs) hD.1 hD.2.2.1 hD.2.2.2.2
  obtain ⟨o, ho, r, hz, ok3⟩ := ok2.freeze hput_self
  have ev3 := (ev'.adopt (d := .lst acc) hD.2.2.2.1).trans (Ev.freeze (O := nil) (o := o) hput_self hz)
  rw [hdel_hput hD.2.1] at ok3 ev3
  exact ⟨_, H', .lst acc, e₁.trans ev3, ok3, .cont zput_self (r.mono (zput_le hz)), q⟩
end
end Mine

end

noncomputable section
open PySem PySem.W PySem.Calls PyProof.Rows
set_option maxHeartbeats 1000000
namespace Mine
section
variable {X : Cx} {A : Around} {s s' s'' : Shared} {Z Z' : ZMap} {H H' : Hp} {env : Env} {σ σ' : Sto}
theorem eqBool_S {v u : Value} {ks : List Nat} {Q : Bool → Shared → Prop} (hu : A.units < cLine) (o : Ok X s Z H) (r : Rep X Z v (.sset ks)) (r' : Rep X Z u (.sset ks)) (h : Q true s) : wpAny X.M A (eqBool v u) Q No s := by
  obtain ⟨a, _, rfl, _, Sa⟩ := o.ssetAt r
  obtain ⟨b, _, rfl, _, Sb⟩ := o.ssetAt r'
  unfold eqBool
  refine wpAny_holding ?_
  show wpAny _ _ (if (Value.ref a == Value.ref b) = true then _ else _) Q No s
  by_cases hab : (Value.ref a == Value.ref b) = true
  · rw [if_pos hab]
    exact wpAny_bind (wpAny_rule (wpAny_pure h))
  · rw [if_neg hab]
    refine wpAny_bind (rich_eqS hu Sa Sb ?_)
    rw [decide_eq_true rfl]
    exact wpAny_truthy_bool h
/-- two dicts of one length, each entry of the first found in the second -/
theorem pairs_true {nm : String} {a b : Addr} {oa ob : Obj} {es es' : Array DictEntry} {ep ep' : Nat} {Q : Bool → Shared → Prop} (ha : (a == sysModules) = false) (hb : (b == sysModules) = false)
    (hoa : s.heap.get? a = some oa) (hda : oa.data = .dict es ep) (hob : s.heap.get? b = some ob) (hdb : ob.data = .dict es' ep') (hsz : es.size = es'.size)
    (hits : ∀ i (hi : i < es.size), ∃ j f, es'[j]? = some f ∧ (∀ Q : Option Nat → Shared → Prop, Q (some j) s → wpAny X.M A (dictFind b es[i].key es[i].hash) Q No s) ∧ (∀ Q : Bool → Shared → Prop, Q true s → wpAny X.M A (eqBool es[i].val f.val) Q No s)) (h : Q true s) :
    wpAny X.M A (Builtin.Dict.samePairs nm a b) Q No s := by
  unfold Builtin.Dict.samePairs Builtin.Dict.showsAll
  rw [if_neg (show ¬ (a == sysModules) = true by rw [ha]; exact Bool.false_ne_true), if_neg (show ¬ (b == sysModules) = true by rw [hb]; exact Bool.false_ne_true)]
  refine wpAny_bind (wpAny_pure (wpAny_bind (wpAny_pure ?_)))
  refine wpAny_bind (wpAny_dictEntries hoa hda ?_)
  dsimp only
  refine wpAny_bind (wpAny_dictEntries hob hdb ?_)
  rw [if_neg (by rw [hsz]; simp)]
  refine wpAny_bind (wpAny_dictEpoch hoa hda ?_)
  refine wpAny_bind ?_
  rw [Std.Legacy.Range.forIn_eq_forIn_range']
  simp only [Std.Legacy.Range.size, Nat.sub_zero, Nat.add_sub_cancel, Nat.div_one]
  refine wpAny_forIn_list _ (fun rest q s' => s' = s ∧ q = (none, ()) ∧ ∀ i ∈ rest, i < es.size) _ ?_ ?_ _ _ ⟨rfl, rfl, fun i hi => by have := List.mem_range'_1.mp hi; omega⟩
  · rintro i rest q s' ⟨rfl, rfl, hr⟩
    have hlt := hr i List.mem_cons_self
    obtain ⟨j, f, hj, hfind, heq⟩ := hits i hlt
    refine wpAny_bind (wpAny_dictEntries hoa hda ?_)
    rw [Array.getElem?_eq_getElem hlt]
    show wpAny _ _ (holding [es[i].key, es[i].val] _ >>= _) _ _ _
    refine wpAny_bind (wpAny_holding (wpAny_bind (hfind _ ?_)))
    refine wpAny_bind (wpAny_dictEntries hob hdb ?_)
    rw [hj]
    refine wpAny_holding (heq _ ?_)
    show wpAny _ _ (if (!true) = true then _ else _) _ _ _
    rw [if_neg (by decide)]
    refine wpAny_bind (wpAny_dictEpoch hoa hda ?_)
    rw [if_neg (by simp)]
    exact wpAny_pure ⟨rfl, rfl, fun i hi => hr i (List.mem_cons_of_mem _ hi)⟩
  · rintro q s' ⟨rfl, rfl, _⟩
    exact wpAny_pure h
theorem dict_eq {a b : Addr} {Q : Value → Shared → Prop} (hT : s.TypeIs (.ref a) "dict") (hT' : s.TypeIs (.ref b) "dict") (hu : A.units < cLine)
    (h : ∀ R : Bool → Shared → Prop, R true s → wpAny X.M A.in1 (Builtin.Dict.samePairs "dict.__eq__" a b) R No s) (hq : Q (.bool true) s) : wpAny X.M A (compareOp .Eq (.ref a) (.ref b)) Q No s := by
  refine wpAny_richCompare_same_room (op := .Eq) hT hT' PySem.F.slot_dict_eq (wpAny_call_entry PySem.F.slot_dict_eq hT PySem.F.entry_dict_eq ?_ (PySem.F.args_dict_eq_2 _ _)) hu
  show wpAny _ _ (Builtin.Dict.dictSlotArgs "__eq__" ⟨[.ref a, .ref b], []⟩ >>= _) _ _ s
  refine wpAny_bind ?_
  unfold Builtin.Dict.dictSlotArgs
  refine wpAny_bind (wpAny_notOrdered_dict hT ?_)
  show wpAny _ _ (pure (Value.ref a, Value.ref b)) _ _ s
  refine wpAny_pure ?_
  refine wpAny_bind (wpAny_isInstance (T := "dict") hT' PySem.F.sub_dict_dict ?_)
  simp only [Bool.not_true, Bool.false_eq_true, if_false]
  refine wpAny_bind (wpAny_pure (wpAny_bind (wpAny_pure ?_)))
  refine wpAny_bind (wpAny_mono (h (fun b s' => b = true ∧ s' = s) ⟨rfl, rfl⟩) (fun r s' p => ?_) fun _ _ f => f.elim)
  obtain ⟨rfl, rfl⟩ := p
  refine wpAny_pure ⟨_, rfl, ?_, ?_⟩
  · exact fun x => nomatch x
  · simpa using hq
theorem reps_at {κ : Type} {kvs : List (κ × Value)} {ds : List D} (rs : Reps X Z (kvs.map (·.2)) ds) {i : Nat} {k : κ} {v : Value} (h : kvs[i]? = some (k, v)) : ∃ d, ds[i]? = some d ∧ Rep X Z v d :=
  rs.getV (by rw [List.getElem?_map, h]; rfl)
theorem t2_eqI {d e : D} {ks js : List Int} {ds es : List D} {Q : D → Hp → Prop} (hu : A.units + 1 < cLine) (ha : At H d (.idict ks ds)) (hb : At H e (.idict js es)) (hl : ks.length = js.length)
    (hall : ∀ (i : Nat) (k : Int) (x : D), ks[i]? = some k → ds[i]? = some x → ∃ a, x = .sset a ∧ getK k js es = some (.sset a)) (h : Q (.bool true) H) : t2 X A (compareOp .Eq) d e H Q := fun s Z v u o r r' => by
  obtain ⟨a, ka, rfl, da, rfl, ra, la⟩ := o.idictAt r ha
  obtain ⟨b, kb, rfl, db, rfl, rb, lb⟩ := o.idictAt r' hb
  refine dict_eq da.typeIs db.typeIs (by omega) (fun R hR => ?_) (.now o (.bool _) h)
  obtain ⟨oa, es1, ep, hoa, _, hda, hka, hpa, _⟩ := da
  obtain ⟨ob, es2, ep', hob, _, hdb, hkb, hpb, _⟩ := db
  have hla : ka.length = es1.size := by rw [← hpa.length]; exact Array.length_toList
  have hlb : kb.length = es2.size := by rw [← hpb.length]; exact Array.length_toList
  rw [List.length_map, List.length_map] at hl
  refine pairs_true la lb hoa hda hob hdb (by omega) (fun i hi => ?_) hR
  have hi' : i < ka.length := by omega
  obtain ⟨k, v, hkv⟩ : ∃ k v, ka[i] = (k, v) := ⟨_, _, rfl⟩
  have hkv' : ka[i]? = some (k, v) := by rw [List.getElem?_eq_getElem hi', hkv]
  obtain ⟨hkey, hval⟩ := hpa.get? (i := i) (e := es1[i]) (k := k) (v := v) (by rw [Array.getElem?_toList]; exact Array.getElem?_eq_getElem hi) hkv'
  obtain ⟨k', hk', hh⟩ := hka es1[i] (Array.getElem_mem hi)
  have ekk : k' = k := (intKind X.prog X.w).inj _ _ _ hk' hkey
  rw [ekk] at hh
  obtain ⟨x, hx, rx⟩ := reps_at ra hkv'
  obtain ⟨z, rfl, hg⟩ := hall i k x (by rw [List.getElem?_map, hkv']; rfl) hx
  obtain ⟨y, hy, ry⟩ := (valueAt_getK rb).1 _ hg
  have hfind : findBy (intKind X.prog X.w).is es2 k = valueAt kb k := by
    rw [← hpb.find k]
    clear hlb hpb hkb hdb hob
    obtain ⟨l⟩ := es2
    simp [findBy]
  cases hj : es2.findIdx? fun e => (intKind X.prog X.w).is k e.key with
  | none => rw [findBy_of_findIdx?, hj, hy] at hfind; cases hfind
  | some j =>
    obtain ⟨hjlt, _, _⟩ := Array.findIdx?_eq_some_iff_getElem.mp hj
    have hv' : valueAt kb k = some es2[j].val := by
      rw [← hfind, findBy_of_findIdx?, hj]
      simp [Array.getElem?_eq_getElem hjlt]
    have ey : es2[j].val = y := Option.some.inj (hv'.symm.trans hy)
    refine ⟨j, es2[j], Array.getElem?_eq_getElem hjlt, fun Q hQ => ?_, fun Q hQ => ?_⟩
    · rw [hh]; exact wpAny_dictFind_of hkey hob hdb hkb (by rw [hj]; exact hQ)
    · rw [hval, ey]; exact eqBool_S (by show A.units + 1 < cLine; exact hu) o rx ry hQ
theorem t2_eqK {d e : D} {ks js : List (List Int)} {ds es : List D} {Q : D → Hp → Prop} (hu : A.units + 2 < cLine) (ha : At H d (.tdict ks ds)) (hb : At H e (.tdict js es)) (hl : ks.length = js.length)
    (hall : ∀ (i : Nat) (k : List Int) (x : D), ks[i]? = some k → ds[i]? = some x → ∃ a, x = .sset a ∧ getK k js es = some (.sset a)) (h : Q (.bool true) H) : t2 X A (compareOp .Eq) d e H Q := fun s Z v u o r r' => by
  obtain ⟨a, ka, rfl, da, rfl, ra, ta, la⟩ := o.tdictAt r ha
  obtain ⟨b, kb, rfl, db, rfl, rb, tb, lb⟩ := o.tdictAt r' hb
  refine dict_eq da.typeIs db.typeIs (by omega) (fun R hR => ?_) (.now o (.bool _) h)
  obtain ⟨oa, es1, ep, hoa, _, hda, hpa, hka, _⟩ := da
  obtain ⟨ob, es2, ep', hob, _, hdb, hpb, hkb, hnb⟩ := db
  have hla : es1.size = ka.length := size_of_entries hpa
  have hlb : es2.size = kb.length := size_of_entries hpb
  rw [List.length_map, List.length_map] at hl
  refine pairs_true la lb hoa hda hob hdb (by omega) (fun i hi => ?_) hR
  have hi' : i < ka.length := by omega
  obtain ⟨k, c, v, hkv⟩ : ∃ k c v, ka[i] = (k, c, v) := ⟨_, _, _, rfl⟩
  have hkv' : ka[i]? = some (k, c, v) := by rw [List.getElem?_eq_getElem hi', hkv]
  have hent := entry_at hpa i
  rw [hkv', Array.getElem?_eq_getElem hi] at hent
  have hent : es1[i] = entryOfKey (tupleKind (intKind X.prog X.w)) (k, c, v) := by simpa using hent
  obtain ⟨x, hx, rx⟩ := ra.getV (i := i) (v := v) (by rw [List.getElem?_map, hkv']; rfl)
  obtain ⟨z, rfl, hg⟩ := hall i k x (by rw [List.getElem?_map, hkv']; rfl) hx
  obtain ⟨p, hp, ry⟩ := (atKey_getK rb).1 _ hg
  rw [hent]
  have hmem : ∃ j : Nat, kb[j]? = some (k, p) := by
    unfold atKey at hp
    obtain ⟨q, hq, rfl⟩ := Option.map_eq_some_iff.mp hp
    obtain ⟨j, hj⟩ := List.getElem?_of_mem (List.mem_of_find?_eq_some hq)
    have := List.find?_some hq
    exact ⟨j, by rw [hj]; obtain ⟨q1, q2⟩ := q; simp at this; subst this; rfl⟩
  obtain ⟨j, hj⟩ := hmem
  have hej := entry_at hpb j
  rw [hj] at hej
  refine ⟨j, entryOfKey (tupleKind (intKind X.prog X.w)) (k, p), by simpa using hej, fun Q hQ => ?_, fun Q hQ => ?_⟩
  · refine wpAny_dictFind_heap (knd := tupleKind (intKind X.prog X.w)) (tupleKind_room_in1 (by omega)) (hka _ (List.mem_of_getElem? hkv')) hob hdb hpb hkb hnb (fun hno => absurd hj (hno j p)) fun j' p' hj' => ?_
    have : j' = j := by
      have e1 : (kb.map (·.1))[j']? = some k := by rw [List.getElem?_map, hj']; rfl
      have e2 : (kb.map (·.1))[j]? = some k := by rw [List.getElem?_map, hj]; rfl
      have h1 := (List.getElem?_eq_some_iff.mp e1).1
      exact (List.getElem?_inj h1 hnb).mp (e1.trans e2.symm)
    rw [this]; exact hQ
  · exact eqBool_S (by show A.units + 1 < cLine; omega) o rx ry hQ
end
end Mine

end

noncomputable section
open PySem PySem.W PySem.Calls PyProof.Rows
set_option maxHeartbeats 1000000
namespace Mine
section
variable {X : Cx} {A : Around} {s s' s'' : Shared} {Z Z' : ZMap} {H H' : Hp} {env : Env} {σ σ' : Sto}
/-- an object, handed on frozen -/
theorem tE_frzI {e : Expr} {Q : D → Hp → Prop} (h : tE X A env e σ H (fun d H' => ∃ C dx names ds, d = .inst C dx ∧ H' dx = some (.ns names ds) ∧ Q (.obj C names ds) (hdel H' dx))) : tE X A env e σ H Q := fun s Z i => by
  refine wpAny_mono (h s Z i) (fun v s₁ p => ?_) fun _ _ f => f
  obtain ⟨Z₁, H₁, d, e₁, o₁, r₁, C, dx, names, ds, rfl, ha, q⟩ := p
  obtain ⟨o, ho, r, hz, ok'⟩ := o₁.freeze ha
  refine ⟨_, _, .obj C names ds, e₁.trans (Ev.freeze ha hz), ok', ?_, q⟩
  cases r₁ with
  | inst e => exact .obj (zput_le hz _ _ e) zput_self (r.mono (zput_le hz))
  | cont _ r => cases r
end
end Mine

end

section
open PySem PySem.W PySem.Calls PyProof.Rows
set_option maxHeartbeats 8000000
namespace Mine

local macro_rules | `(tactic| right) => `(tactic| with_unfolding_all exact rfl)
local macro_rules | `(tactic| and_intros) => `(tactic| first | decide | omega)
local macro_rules | `(tactic| sizeOf_list_dec) => `(tactic| with_reducible first
  | (show Room ..; exact Room.deeper ‹_› (by decide))
  | (show _ = _; exact Room.dh ‹_›)
  | (show _ + 64 < _; exact Room.d64 ‹_›)
  | (show _ + 65 < _; exact Room.d65 ‹_›)
  | (show _ + 1 < _; exact Room.d1 ‹_›)
  | exact Room.d0 ‹_›)
local macro_rules | `(tactic| array_mem_dec) => `(tactic| first
  | exact At.z
  | exact At.h (by first | assumption | exact hput_self | (rw [hput_ne (by first | assumption | exact Ne.symm ‹_›)]; first | assumption | exact hput_self)))
local macro_rules | `(tactic| infer_instance) => `(tactic| first | exact keep_builtin | exact keep_type | exact keepK (by right))
local macro_rules | `(tactic| decreasing_trivial_pre_omega) => `(tactic| with_reducible first
  | refine tE_loc (by right) (by right) ?_
  | refine tE_glob (by right) (by right) ?_
  | refine tE_bltN (by right) (by right) (by right) ?_
  | refine tE_cell (by right) (by right) (by right) ?_)
local macro_rules | `(tactic| left) => `(tactic| fail "no contract")
local macro_rules | `(tactic| array_get_dec) => `(tactic| with_reducible first
  | (show tE ..; first
  | refine tE_int ?_
  | refine tE_str ?_
  | refine tE_Attr ?_
  | refine tE_BinOp ?_
  | refine tE_bool ?_
  | refine tE_none ?_
  | (show tE _ _ _ (Expr.Name ..) ..; decreasing_trivial_pre_omega)
  | (show tE _ _ _ (Expr.Subscript ..) ..; refine tE_SubN (by right) ?_)
  | (show tE _ _ _ (Expr.Call ..) ..; first
  | refine tE_CallG (by right) (by right) (by right) (by right) ?_
  | refine tE_CallB (by right) (by right) (by right) (by right) ?_
  | refine tE_Meth (by right) ?_
  | refine tE_Call (by right) ?_)
  | refine tE_Cmp ?_
  | refine tE_Bool ?_
  | refine tE_IfExp ?_
  | refine tE_Un ?_
  | refine tE_Tuple (by right) ?_
  | refine tE_List (by right) ?_
  | refine tE_CompB (by right) (fun _ => by right) ?_)
  | (show t2 ..; first
  | (show t2 _ _ (subscriptTail _ _) ..; first
  | (show t2 _ _ _ (.lst _) ..; refine t2_itemL .z (by right) (by and_intros) (by and_intros) (by right) ?_)
  | (show t2 _ _ _ (.raw _) ..; refine t2_itemL (by array_mem_dec) (by right) (by and_intros) (by and_intros) (by right) ?_)
  | refine t2_itemT (by right) (by right) (by and_intros) (by and_intros) (by right) ?_)
  | (show t2 _ _ (compareOp .Eq) ..; refine t2_eq .z .z (by right) (by right) (by right) (by right) (by sizeOf_list_dec) ?_)
  | (show t2 _ _ (compareOp .NotEq) ..; refine t2_ne .z .z (by right) (by right) (by right) (by right) (by sizeOf_list_dec) ?_)
  | (show t2 _ _ (compareOp .In) _ (.tup _) ..; refine t2_in_tup (by right) (by right) (by right) (by with_unfolding_all decide) (by right) (by sizeOf_list_dec) ?_)
  | refine t2_add ?_
  | refine t2_sub ?_
  | refine t2_lt ?_
  | refine t2_gt ?_
  | refine t2_ge ?_)
  | (show ∃ _, _; first
  | refine exB ?_
  | refine exR ⟨by infer_instance, ?_⟩
  | refine subR ?_)
  | (show KeepOk .. ∧ _; refine And.intro (by infer_instance) ?_)
  | (show _ ≤ _ ∧ _; refine And.intro (by first | exact Nat.le_of_ble_eq_true (by right) | with_unfolding_all decide) ?_)
  | (show ite ..; first
  | refine ite_t ?_
  | refine ite_f ?_
  | refine ite_ct (by right) ?_
  | refine ite_cf (by right) ?_)
  | (show tT ..; first
  | refine tT_Cmp ?_
  | refine tT_Bool ?_
  | refine tT_Not ?_
  | refine tT_val ?_)
  | (show tAll ..; first
  | refine tAll_or ?_
  | refine tAll_and ?_
  | refine tAll_or0 ?_
  | refine tAll_and0 ?_)
  | refine tS_cons ?_
  | refine tS_nil ?_
  | (show tX ..; first
  | refine tX_If ?_
  | refine tX_Return ?_
  | refine tX_Assign ?_
  | refine tX_Expr ?_)
  | (show tA ..; first
  | refine tA_loc (by right) (by right) ?_
  | refine tA_cell (by right) (by right) ?_
  | refine tA_sub ?_
  | refine tA_attr ?_)
  | refine tL_cons ?_
  | refine tL_nil ?_
  | (show tC ..; first
  | left
  | (show tC _ _ (.builtin _) ..; first | refine tC_lenT ‹_› ?_ | refine tC_len (by array_mem_dec) ‹_› ?_))
  | refine tBO_or ?_
  | refine tBO_and ?_
  | refine tBO_one ?_
  | refine tAs_cons ?_
  | refine tAs_nil ?_
  | refine tIf1 ?_
  | refine tIf0 ?_
  | refine t1_neg ?_
  | refine b1_bool ?_
  | (show tIt _ _ (.lst _) ..; refine tIt_lst (by sizeOf_list_dec) ?_)
  | (show tIt _ _ (.tup _) ..; refine tIt_tup (by sizeOf_list_dec) ?_))

noncomputable section
inductive Step where
  | field (i : Int) | deref | index (i : Int) | down (i : Int)
deriving DecidableEq
noncomputable def Step.d : Step → D
  | .field i => .tup [.str "field", .int i]
  | .deref => .tup [.str "deref"]
  | .index i => .tup [.str "index", .int i]
  | .down i => .tup [.str "downcast", .int i]
noncomputable def meetsB : Step → Step → Bool
  | .field i, .field j => i == j
  | .down i, .down j => i == j
  | _, _ => true
noncomputable def asideB : Step → Step → Bool
  | .field i, .field j => i != j
  | .down i, .down j => i != j
  | _, _ => false

noncomputable def Step.tag : Step → Str
  | .field _ => "field"
  | .deref => "deref"
  | .index _ => "index"
  | .down _ => "downcast"
noncomputable def Step.ds : Step → List D
  | .field i => [.str "field", .int i]
  | .deref => [.str "deref"]
  | .index i => [.str "index", .int i]
  | .down i => [.str "downcast", .int i]
theorem Step.d_ds (a : Step) : a.d = .tup a.ds := by cases a <;> rfl
theorem Step.d0 (a : Step) : a.ds[(0 : Int).toNat]? = some (.str a.tag) := by cases a <;> rfl
noncomputable def bothB (a b : Step) : Bool := (a.tag == "field" && b.tag == "field") || (a.tag == "downcast" && b.tag == "downcast")
theorem Step.tag_ok (a : Step) : SeqAt.shaped (.str a.tag) = true := by cases a <;> with_unfolding_all rfl
theorem both_1 {a b : Step} (e1 : (a.tag == "field") = true) (e2 : (b.tag == "field") = true) : true = bothB a b := by rw [bothB, e1, e2]; rfl
theorem both_2 {a b : Step} (e1 : (a.tag == "downcast") = true) (e2 : (b.tag == "downcast") = true) : true = bothB a b := by rw [bothB, e1, e2, Bool.and_self, Bool.or_true]
theorem both_3 {a b : Step} (e1 : (a.tag == "field") = false ∨ (b.tag == "field") = false) (e2 : (a.tag == "downcast") = false ∨ (b.tag == "downcast") = false) : false = bothB a b := by
  have q : ∀ {x y : Bool}, x = false ∨ y = false → (x && y) = false := by decide
  rw [bothB, q e1, q e2]; rfl
theorem meets_of {a b : Step} (e : bothB a b = true) : ∃ i j, a.ds[(1 : Int).toNat]? = some (.int i) ∧ b.ds[(1 : Int).toNat]? = some (.int j) ∧ meetsB a b = (i == j) := by
  cases a <;> cases b <;> first | (with_unfolding_all cases e; done) | exact ⟨_, _, rfl, rfl, rfl⟩
theorem meets_not {a b : Step} (e : bothB a b = false) : meetsB a b = true := by
  cases a <;> cases b <;> first | rfl | (with_unfolding_all cases e; done)
noncomputable def mayB (ss ts : List Step) : Bool := (List.zipWith meetsB ss ts).all id
inductive MaI (H : Hp) (ss ts : List Step) (ds : List D) (σ : Sto) (H₁ : Hp) : Prop
  | mk (i1 : H₁ = H) (ss' ts' : List Step) (i2 : ds = (List.zipWith (fun a b => [a, b]) (ss'.map Step.d) (ts'.map Step.d)).map .tup) (i3 : mayB ss ts = mayB ss' ts')
theorem Step.tag_lay (a : Step) : PyData.canLay0 (.str a.tag) = true := by cases a <;> with_unfolding_all rfl
theorem aside_no1 {a b : Step} (e : PyData.eqv (.str a.tag) (.str b.tag) = false) : asideB a b = false := by
  cases a <;> cases b <;> first | rfl | (with_unfolding_all cases e; done)
theorem aside_no2 {a b : Step} (e : ([.str "field", .str "downcast"] : List PyData).any (fun y => PyData.eqv y (.str a.tag)) = false) : asideB a b = false := by
  cases a <;> cases b <;> first | rfl | (with_unfolding_all cases e; done)
theorem aside_of {a b : Step} (e1 : PyData.eqv (.str a.tag) (.str b.tag) = true) (e2 : ([.str "field", .str "downcast"] : List PyData).any (fun y => PyData.eqv y (.str a.tag)) = true) : ∃ i j, a.ds[(1 : Int).toNat]? = some (.int i) ∧ b.ds[(1 : Int).toNat]? = some (.int j) ∧ asideB a b = (i != j) := by
  cases a <;> cases b <;> first | (with_unfolding_all cases e1; done) | (with_unfolding_all cases e2; done) | exact ⟨_, _, rfl, rfl, rfl⟩
theorem sub0 (i j : Int) : (!(PyData.int (i - j)).eqv (PyData.int 0)) = (i != j) := by
  show (!((i - j) == 0)) = (i != j)
  rw [Bool.eq_iff_iff]; simp; omega
section
variable {X : Cx} {A : Around} {H : Hp}
theorem tT_tag {x : Str} {a : Step} {t : Str} {px p1 p2 p3 p4 : Pos} {k k' : Nat} {env : Env} {σ : Sto} {Q : Bool → Hp → Prop} (hu : A.units + 64 < cLine) (hl : env.kindOf x = some .local) (hv : σ x = some a.d) (ht : SeqAt.shaped (.str t) = true) (h : Q (a.tag == t) H) (hd : (x == ("__debug__" : Str)) = false := by with_unfolding_all exact rfl) :
    tT X A env (.Compare (.Subscript (.Name x px) (.Constant (.int 0) k p1) p2) [.Eq] [.Constant (.str t) k' p3] p4) σ H Q := by
  refine tT_Cmp (tE_SubN rfl (tE_loc hl hv (tE_int (t2_itemT a.d_ds rfl (by decide) (by decide) a.d0 (tE_str (t2_eq .z .z rfl rfl a.tag_ok ht hu ⟨_, rfl, h⟩)))) hd))
theorem c_meets {a b : Step} {Q : D → Hp → Prop} (hr : Room A 1) (h : Q (.bool (meetsB a b)) H) : tC X A (.ref 28) [a.d, b.d] H Q := by
  refine tC_def (X := X) (f := 28) (ds := [a.d, b.d]) (ho := by with_unfolding_all rfl) (by with_unfolding_all rfl) hr.lim ?_ ?_ ?_ ?_
  · intro s vs hk hl
    revert vs; refine len2 ?_; intro v1 v2; exact BindsTo.of_eq (by with_unfolding_all rfl)
  · with_unfolding_all decide
  · intro L e0 A0
    array_get_dec
    refine tX_If (tT.mono (Q := fun t H' => t = bothB a b ∧ H' = H) ?_ ?_)
    · array_get_dec
      array_get_dec
      array_get_dec
      array_get_dec
      refine tT_tag (by sizeOf_list_dec) (by right) (by right) (by right) (itB (fun e1 => ?_) (fun e1 => ?_))
      · array_get_dec
        refine tT_tag (by sizeOf_list_dec) (by right) (by right) (by right) (itB (fun e2 => ?_) (fun e2 => ?_))
        · repeat array_get_dec
          exact ⟨both_1 e1 e2, rfl⟩
        · array_get_dec
          array_get_dec
          array_get_dec
          array_get_dec
          refine tT_tag (by sizeOf_list_dec) (by right) (by right) (by right) (itB (fun e3 => ?_) (fun e3 => ?_))
          · array_get_dec
            refine tT_tag (by sizeOf_list_dec) (by right) (by right) (by right) (itB (fun e4 => ?_) (fun e4 => ?_))
            · repeat array_get_dec
              exact ⟨both_2 e3 e4, rfl⟩
            · repeat array_get_dec
              exact ⟨both_3 (.inr e2) (.inr e4), rfl⟩
          · repeat array_get_dec
            exact ⟨both_3 (.inr e2) (.inl e3), rfl⟩
      · array_get_dec
        array_get_dec
        array_get_dec
        array_get_dec
        refine tT_tag (by sizeOf_list_dec) (by right) (by right) (by right) (itB (fun e3 => ?_) (fun e3 => ?_))
        · array_get_dec
          refine tT_tag (by sizeOf_list_dec) (by right) (by right) (by right) (itB (fun e4 => ?_) (fun e4 => ?_))
          · repeat array_get_dec
            exact ⟨both_2 e3 e4, rfl⟩
          · repeat array_get_dec
            exact ⟨both_3 (.inl e1) (.inr e4), rfl⟩
        · repeat array_get_dec
          exact ⟨both_3 (.inl e1) (.inl e3), rfl⟩
    rintro _ _ ⟨rfl, rfl⟩
    refine itB (fun e => ?_) (fun e => ?_)
    · obtain ⟨i, j, hi, hj, hm⟩ := meets_of e
      rw [hm] at h
      array_get_dec
      array_get_dec
      array_get_dec
      array_get_dec
      array_get_dec
      array_get_dec
      refine t2_itemT a.d_ds rfl (by decide) (by decide) hi ?_
      array_get_dec
      array_get_dec
      array_get_dec
      refine t2_itemT b.d_ds rfl (by decide) (by decide) hj ?_
      repeat array_get_dec
      exact h
    · rw [meets_not e] at h
      repeat array_get_dec
      exact h
  · with_unfolding_all decide
local macro_rules | `(tactic| left) => `(tactic| refine c_meets (by sizeOf_list_dec) ?_)
theorem c_aside {a b : Step} {Q : D → Hp → Prop} (hr : Room A 1) (h : Q (.bool (asideB a b)) H) : tC X A (.ref 204) [a.d, b.d] H Q := by
  refine tC_def (X := X) (f := 204) (ds := [a.d, b.d]) (ho := by with_unfolding_all rfl) (by with_unfolding_all rfl) hr.lim ?_ ?_ ?_ ?_
  · intro s vs hk hl
    revert vs; refine len2 ?_; intro v1 v2; exact BindsTo.of_eq (by with_unfolding_all rfl)
  · with_unfolding_all decide
  · intro L e0 A0
    array_get_dec
    array_get_dec
    refine tE.mono (Q := fun d H' => d = .bool (asideB a b) ∧ H' = H) ?_ ?_
    · array_get_dec
      array_get_dec
      array_get_dec
      array_get_dec
      array_get_dec
      array_get_dec
      refine t2_itemT a.d_ds rfl (by decide) (by decide) a.d0 ?_
      array_get_dec
      array_get_dec
      array_get_dec
      refine t2_itemT b.d_ds rfl (by decide) (by decide) b.d0 ?_
      refine t2_eq .z .z rfl rfl a.tag_ok b.tag_ok (by sizeOf_list_dec) ?_
      refine b1_bool (itB (fun e1 => ?_) (fun e1 => ?_))
      · array_get_dec
        array_get_dec
        array_get_dec
        array_get_dec
        array_get_dec
        refine t2_itemT a.d_ds rfl (by decide) (by decide) a.d0 ?_
        array_get_dec
        array_get_dec
        array_get_dec
        array_get_dec
        array_get_dec
        array_get_dec
        array_get_dec
        refine t2_in_tup rfl rfl a.tag_lay (Nat.le_of_ble_eq_true rfl) (by right) (by sizeOf_list_dec) ?_
        refine b1_bool (itB (fun e2 => ?_) (fun e2 => ?_))
        · obtain ⟨i, j, hi, hj, hm⟩ := aside_of e1 e2
          array_get_dec
          array_get_dec
          array_get_dec
          array_get_dec
          array_get_dec
          array_get_dec
          refine t2_itemT a.d_ds rfl (by decide) (by decide) hi ?_
          array_get_dec
          array_get_dec
          array_get_dec
          refine t2_itemT b.d_ds rfl (by decide) (by decide) hj ?_
          repeat array_get_dec
          exact ⟨congrArg D.bool ((sub0 i j).trans hm.symm), rfl⟩
        · repeat array_get_dec
          exact ⟨congrArg D.bool (e2.trans (aside_no2 e2).symm), rfl⟩
      · repeat array_get_dec
        exact ⟨congrArg D.bool (e1.trans (aside_no1 e1).symm), rfl⟩
    rintro _ _ ⟨rfl, rfl⟩
    repeat array_get_dec
    exact h
  · with_unfolding_all decide
local macro_rules | `(tactic| left) => `(tactic| refine c_aside (by sizeOf_list_dec) ?_)
theorem c_may {ss ts : List Step} {Q : D → Hp → Prop} (hr : Room A 2) (h : Q (.bool (mayB ss ts)) H) : tC X A (.ref 35) [.tup (ss.map Step.d), .tup (ts.map Step.d)] H Q := by
  refine tC_def (X := X) (f := 35) (ds := [.tup (ss.map Step.d), .tup (ts.map Step.d)]) (ho := by with_unfolding_all rfl) (by with_unfolding_all rfl) hr.lim ?_ ?_ ?_ ?_
  · intro s vs hk hl
    revert vs; refine len2 ?_; intro v1 v2; exact BindsTo.of_eq (by with_unfolding_all rfl)
  · with_unfolding_all decide
  · intro L e0 A0
    refine tS_cons (tX_ForT (tEI_zip (by sizeOf_list_dec) rfl rfl ?_))
    array_get_dec
    refine ⟨rfl, ?_⟩
    array_get_dec
    array_get_dec
    refine ⟨_, _, rfl, rfl, ?_⟩
    refine LF_ind (MaI H ss ts) ?_ ?_ _ _ _ ⟨rfl, ss, ts, rfl, rfl⟩
    · rintro σ H₁ ⟨rfl, ss', ts', e, em⟩
      repeat array_get_dec
      have : mayB ss' ts' = true := by
        match ss', ts' with
        | [], _ => rfl
        | _ :: _, [] => rfl
        | _ :: _, _ :: _ => cases e
      rw [em, this] at h; exact h
    · rintro d ds σ H₁ ⟨rfl, ss', ts', e, em⟩
      match ss', ts' with
      | [], _ => cases e
      | _ :: _, [] => cases e
      | a :: ss', b :: ts' =>
        injection e with e1 e2
        subst e1
        refine tA_tup (by sizeOf_list_dec) rfl rfl ?_
        repeat array_get_dec
        refine itB (fun e => ?_) (fun e => ?_)
        · repeat array_get_dec
          have : mayB (a :: ss') (b :: ts') = false := by
            rw [Bool.not_eq_true'] at e
            simp [mayB, e]
          rw [em, this] at h; exact h
        · repeat array_get_dec
          refine ⟨rfl, ss', ts', e2, em.trans ?_⟩
          rw [Bool.not_eq_false'] at e
          simp [mayB, e]
  · with_unfolding_all decide
end

end

local macro_rules | `(tactic| left) => `(tactic| first
  | (show tC _ _ (.ref 28) ..; refine c_meets (by sizeOf_list_dec) ?_)
  | (show tC _ _ (.ref 204) ..; refine c_aside (by sizeOf_list_dec) ?_)
  | (show tC _ _ (.ref 35) ..; refine c_may (by sizeOf_list_dec) ?_))

noncomputable section
noncomputable def Step.py : Step → PyData
  | .field i => .tuple [.str "field", .int i]
  | .deref => .tuple [.str "deref"]
  | .index i => .tuple [.str "index", .int i]
  | .down i => .tuple [.str "downcast", .int i]
noncomputable def Step.isIdx : Step → Bool
  | .index _ => true
  | _ => false
theorem Step.py_d (a : Step) : a.d.py = some a.py := by cases a <;> rfl
theorem Step.lay (a : Step) : a.py.canLay0 = true ∧ a.py.depth ≤ 5 := by cases a <;> exact ⟨by with_unfolding_all rfl, by with_unfolding_all exact Nat.le_of_ble_eq_true rfl⟩
theorem Step.eqv (a b : Step) : PyData.eqv a.py b.py = decide (a = b) := by
  cases a <;> cases b <;> first | rfl | (rename_i i j; show (true && ((i == j) && true)) = _; rw [Bool.eq_iff_iff]; simp)
noncomputable def stepsPy (l : List Step) : PyData := .tuple (l.map Step.py)
theorem steps_py (l : List Step) : (D.tup (l.map Step.d)).py = some (stepsPy l) := by
  have : ∀ l : List Step, pyAll (l.map Step.d) = some (l.map Step.py) := fun l => by
    induction l with
    | nil => rfl
    | cons a l ih => simp only [List.map_cons, pyAll, Step.py_d, ih]
  simp only [D.py, this, stepsPy, Option.map_some]
theorem steps_eqv (l m : List Step) : PyData.eqv (stepsPy l) (stepsPy m) = decide (l = m) := by
  have : ∀ l m : List Step, PyData.eqvAll (l.map Step.py) (m.map Step.py) = decide (l = m) := fun l => by
    induction l with
    | nil => intro m; cases m <;> rfl
    | cons a l ih =>
      intro m
      cases m with
      | nil => rfl
      | cons b m =>
        show (PyData.eqv a.py b.py && PyData.eqvAll (l.map Step.py) (m.map Step.py)) = _
        rw [Step.eqv, ih, Bool.eq_iff_iff]; simp
  show PyData.eqvAll _ _ = _
  exact this l m
theorem steps_shaped (l : List Step) : SeqAt.shaped (stepsPy l) = true := by
  have h1 : ∀ l : List Step, PyData.canLayAll0 (l.map Step.py) = true := fun l => by
    induction l with
    | nil => rfl
    | cons a l ih => show (a.py.canLay0 && PyData.canLayAll0 (l.map Step.py)) = true; rw [a.lay.1, ih]; rfl
  have h2 : ∀ l : List Step, PyData.depthAll (l.map Step.py) ≤ 5 := fun l => by
    induction l with
    | nil => exact Nat.zero_le _
    | cons a l ih => exact Nat.max_le.mpr ⟨a.lay.2, ih⟩
  have h3 : (stepsPy l).depth ≤ 64 := by
    have := h2 l
    unfold stepsPy PyData.depth; omega
  exact Bool.and_eq_true_iff.mpr ⟨h1 l, decide_eq_true h3⟩
theorem step_shaped (a : Step) : SeqAt.shaped a.py = true := Bool.and_eq_true_iff.mpr ⟨a.lay.1, decide_eq_true (Nat.le_trans a.lay.2 (by decide))⟩

structure Place where
  l : Int
  st : List Step
deriving DecidableEq
noncomputable def Place.d (p : Place) : D := .tup [.int p.l, .tup (p.st.map Step.d)]

noncomputable def prefB (p q : Place) : Bool := decide (p.l = q.l) && decide (p.st.length ≤ q.st.length) && (List.zipWith (fun a b => decide (a = b) && !a.isIdx) p.st q.st).all id
noncomputable def zipsB (l m : List Step) : Bool := (List.zipWith (fun a b => decide (a = b) && !a.isIdx) l m).all id
inductive PrI (H : Hp) (p q : Place) (ds : List D) (σ : Sto) (H₁ : Hp) : Prop
  | mk (i1 : H₁ = H) (ss' ts' : List Step) (i2 : ds = (List.zipWith (fun a b => [a, b]) (ss'.map Step.d) (ts'.map Step.d)).map .tup) (i3 : prefB p q = zipsB ss' ts')
section
variable {X : Cx} {A : Around} {H : Hp} {env : Env} {σ : Sto}
theorem t2_neStep {a b : Step} {Q : D → Hp → Prop} (hu : A.units + 64 < cLine) (h : Q (.bool (!decide (a = b))) H) : t2 X A (compareOp .NotEq) a.d b.d H Q :=
  t2_ne .z .z a.py_d b.py_d (step_shaped a) (step_shaped b) hu (by rw [Step.eqv]; exact h)
theorem t2_neSteps {l m : List Step} {Q : D → Hp → Prop} (hu : A.units + 64 < cLine) (h : Q (.bool (!decide (l = m))) H) : t2 X A (compareOp .NotEq) (.tup (l.map Step.d)) (.tup (m.map Step.d)) H Q :=
  t2_ne .z .z (steps_py l) (steps_py m) (steps_shaped l) (steps_shaped m) hu (by rw [steps_eqv]; exact h)
theorem c_prefix {p q : Place} {Q : D → Hp → Prop} (hr : Room A 1) (hz : p.st.length ≤ 1000 ∧ q.st.length ≤ 1000) (h : Q (.bool (prefB p q)) H) : tC X A (.ref 42) [p.d, q.d] H Q := by
  refine tC_def (X := X) (f := 42) (ds := [p.d, q.d]) (ho := by with_unfolding_all rfl) (by with_unfolding_all rfl) hr.lim ?_ ?_ ?_ ?_
  · intro s vs hk hl
    revert vs; refine len2 ?_; intro v1 v2; exact BindsTo.of_eq (by with_unfolding_all rfl)
  · with_unfolding_all decide
  · intro L e0 A0
    have lp : (p.st.map Step.d).length < 2 ^ 62 := by rw [List.length_map]; omega
    have lq : (q.st.map Step.d).length < 2 ^ 62 := by rw [List.length_map]; omega
    refine tS_cons (tX_If ?_)
    repeat array_get_dec
    have e0 : ∀ (i j : Int), (!PyData.eqv (.int i) (.int j)) = !decide (i = j) := fun i j => rfl
    refine itB (fun e => ?_) (fun e => ?_)
    · repeat array_get_dec
      have : prefB p q = false := by
        have : decide (p.l = q.l) = false := by simpa [PyData.eqv] using e
        simp [prefB, this]
      rw [this] at h; exact h
    repeat array_get_dec
    refine itB (fun e2 => ?_) (fun e2 => ?_)
    · repeat array_get_dec
      have : prefB p q = false := by
        have : decide (p.st.length ≤ q.st.length) = false := by
          rw [decide_eq_true_eq, List.length_map, List.length_map] at e2
          exact decide_eq_false (by omega)
        simp [prefB, this]
      rw [this] at h; exact h
    repeat array_get_dec
    refine tX_ForT (tEI_zip (by sizeOf_list_dec) rfl rfl ?_)
    array_get_dec
    refine ⟨rfl, ?_⟩
    repeat array_get_dec
    refine ⟨_, _, rfl, rfl, ?_⟩
    have em : prefB p q = zipsB p.st q.st := by
      have h1 : decide (p.l = q.l) = true := by simpa [PyData.eqv] using e
      have h2 : decide (p.st.length ≤ q.st.length) = true := by
        rw [decide_eq_false_iff_not, List.length_map, List.length_map] at e2
        exact decide_eq_true (by omega)
      simp only [prefB, h1, h2, Bool.true_and, zipsB]
    refine LF_ind (PrI H p q) ?_ ?_ _ _ _ ⟨rfl, p.st, q.st, rfl, em⟩
    · rintro σ H₁ ⟨rfl, ss', ts', e, em⟩
      repeat array_get_dec
      have : zipsB ss' ts' = true := by
        match ss', ts' with
        | [], _ => rfl
        | _ :: _, [] => rfl
        | _ :: _, _ :: _ => cases e
      rw [em, this] at h; exact h
    · rintro d ds σ H₁ ⟨rfl, ss', ts', e, em⟩
      match ss', ts' with
      | [], _ => cases e
      | _ :: _, [] => cases e
      | a :: ss', b :: ts' =>
        injection e with e1 e2
        subst e1
        refine tA_tup (by sizeOf_list_dec) rfl rfl ?_
        repeat array_get_dec
        refine t2_neStep (by sizeOf_list_dec) ?_
        repeat array_get_dec
        refine itB (fun e => ?_) (fun e => ?_)
        · repeat array_get_dec
          have : zipsB (a :: ss') (b :: ts') = false := by
            rw [Bool.not_eq_true'] at e
            simp [zipsB, e]
          rw [em, this] at h; exact h
        · rw [Bool.not_eq_false'] at e
          have hi : ∀ {P : Prop}, True := fun {P} => trivial
          cases a with
          | index i =>
            repeat array_get_dec
            have : zipsB (.index i :: ss') (b :: ts') = false := by simp [zipsB, Step.isIdx]
            rw [em, this] at h; exact h
          | _ =>
            repeat array_get_dec
            refine ⟨rfl, ss', ts', e2, em.trans ?_⟩
            simp [zipsB, e, Step.isIdx]
  · with_unfolding_all decide
end

end

local macro_rules | `(tactic| left) => `(tactic| (show tC _ _ (.ref 42) ..; refine c_prefix (by sizeOf_list_dec) ‹_› ?_))

noncomputable section
structure Loan where
  n : Nat
  p : Place
  r : Int
  b : Nat
  i : Nat
deriving DecidableEq
noncomputable def Loan.d (l : Loan) : D := .tup [.int l.n, l.p.d, .str "mut", .int l.r, .tup [.int l.b, .int l.i], .tup []]
structure Loan.Ok (l : Loan) : Prop where
  n : l.n < 3
  st : l.p.st.length ≤ 1000
inductive St where
  | assign (p : Place) (rv : D) | dead (x : Int) | nop
noncomputable def St.d : St → D
  | .assign p rv => .tup [.str "assign", p.d, rv]
  | .dead x => .tup [.str "dead", .int x]
  | .nop => .tup [.str "nop"]
noncomputable def St.Ok : St → Prop
  | .assign p _ => p.st.length ≤ 1000
  | _ => True
noncomputable def killB : St → Loan → Bool
  | .assign p _, l => prefB p l.p
  | .dead x, l => decide (l.p.l = x)
  | .nop, _ => false
noncomputable def killed (st : St) (ls : List Loan) : List Nat := canon ((ls.filter (killB st)).map Loan.n)
section
variable {X : Cx} {A : Around} {H : Hp} {env : Env} {σ : Sto}
theorem tC_fzMap {α : Type} {ls : List α} {g : α → Nat} {Q : D → Hp → Prop} (hh : A.handled = none) (hn : ∀ a ∈ ls, g a < 3) (h : Q (.sset (canon (ls.map g))) H) : tC X A (.type "frozenset") [.lst (ls.map fun a => D.int (g a))] H Q := by
  have := tC_fzS (X := X) (A := A) (H := H) (ns := ls.map g) (Q := Q) hh (fun n hn' => by obtain ⟨a, ha, rfl⟩ := List.mem_map.mp hn'; exact hn a ha) h
  rw [List.map_map] at this; exact this
theorem filt_ok {p : Loan → Bool} {ls : List Loan} (hl : ∀ l ∈ ls, l.Ok) : ∀ l ∈ ls.filter p, l.n < 3 := fun l h => (hl l (List.mem_filter.mp h).1).n
theorem lz {ls : List Loan} (hz : ls.length ≤ 1000) : (ls.map Loan.d).length ≤ sizeLine := by rw [List.length_map]; exact Nat.le_trans hz (by decide)
theorem c_killed {ls : List Loan} {st : St} {Q : D → Hp → Prop} (hr : Room A 2) (hl : ∀ l ∈ ls, l.Ok) (hz : ls.length ≤ 1000) (hs : st.Ok) (h : Q (.sset (killed st ls)) H) : tC X A (.ref 47) [.lst (ls.map Loan.d), st.d] H Q := by
  refine tC_defC (X := X) (f := 47) (ds := [.lst (ls.map Loan.d), st.d]) (ho := by with_unfolding_all rfl) (by with_unfolding_all rfl) hr.lim ?_ (by with_unfolding_all rfl) (by with_unfolding_all rfl) ?_
  · intro vs hl
    revert vs; refine len2 ?_; intro v1 v2; with_unfolding_all rfl
  · intro L e0 A0
    cases st with
    | nop =>
      repeat array_get_dec
      refine tC_fz0 ?_
      repeat array_get_dec
      have : killed .nop ls = [] := by
        have : ls.filter (killB .nop) = [] := List.filter_eq_nil_iff.mpr fun _ _ e => by cases e
        unfold killed; rw [this]; rfl
      rw [this] at h; exact h
    | dead x =>
      repeat array_get_dec
      refine ⟨lz hz, fun C => LC_pure Loan.d (killB (.dead x)) (fun l => .int l.n) rfl ?_ ?_ ?_⟩
      · intro l hl
        repeat array_get_dec
        exact ⟨rfl, rfl⟩
      · intro l hl e
        repeat array_get_dec
        exact ⟨rfl, rfl⟩
      · intro _
        refine tL_nil (tC_fzMap (by sizeOf_list_dec) (filt_ok hl) ?_)
        repeat array_get_dec
        exact h
    | assign p rv =>
      have hs : p.st.length ≤ 1000 := hs
      repeat array_get_dec
      refine ⟨lz hz, fun C => LC_pure Loan.d (killB (.assign p rv)) (fun l => .int l.n) rfl ?_ ?_ ?_⟩
      · intro l hl'
        have hp := And.intro hs (hl l hl').st
        repeat array_get_dec
        exact ⟨rfl, rfl⟩
      · intro l hl e
        repeat array_get_dec
        exact ⟨rfl, rfl⟩
      · intro _
        refine tL_nil (tC_fzMap (by sizeOf_list_dec) (filt_ok hl) ?_)
        repeat array_get_dec
        exact h
inductive End where
  | goto (a : Nat) | switch (a b : Nat) | ret | call (p : Place) (a : Nat)
noncomputable def tru : D := .tup [.str "const", .tup [.str "bool"], .bool true]
noncomputable def End.d : End → D
  | .goto a => .tup [.str "goto", .int a]
  | .switch a b => .tup [.str "switch", tru, .tup [.tup [.int 0, .int a]], .int b]
  | .ret => .tup [.str "return"]
  | .call p a => .tup [.str "call", .tup [.str "fn", .str "f", .tup []], .tup [], p.d, .int a]
noncomputable def End.Ok : End → Prop
  | .call p _ => p.st.length ≤ 1000
  | _ => True
noncomputable def killE : End → Loan → Bool
  | .call p _, l => prefB p l.p
  | _, _ => false
noncomputable def killedE (e : End) (ls : List Loan) : List Nat := canon ((ls.filter (killE e)).map Loan.n)
theorem killedE_none {e : End} {ls : List Loan} (h : ∀ l, killE e l = false) : killedE e ls = [] := by
  have : ls.filter (killE e) = [] := List.filter_eq_nil_iff.mpr fun l _ q => by rw [h l] at q; cases q
  unfold killedE; rw [this]; rfl
noncomputable def End.to : End → List Nat
  | .goto a => [a]
  | .switch a b => [a, b]
  | .ret => []
  | .call _ a => [a]
theorem c_killedE {ls : List Loan} {e : End} {Q : D → Hp → Prop} (hr : Room A 2) (hl : ∀ l ∈ ls, l.Ok) (hz : ls.length ≤ 1000) (hs : e.Ok) (h : Q (.sset (killedE e ls)) H) : tC X A (.ref 52) [.lst (ls.map Loan.d), e.d] H Q := by
  refine tC_defC (X := X) (f := 52) (ds := [.lst (ls.map Loan.d), e.d]) (ho := by with_unfolding_all rfl) (by with_unfolding_all rfl) hr.lim ?_ (by with_unfolding_all rfl) (by with_unfolding_all rfl) ?_
  · intro vs hl
    revert vs; refine len2 ?_; intro v1 v2; with_unfolding_all rfl
  · intro L e0 A0
    cases e with
    | call p a =>
      have hs : p.st.length ≤ 1000 := hs
      repeat array_get_dec
      refine ⟨lz hz, fun C => LC_pure Loan.d (killE (.call p a)) (fun l => .int l.n) rfl ?_ ?_ ?_⟩
      · intro l hl'
        have hp := And.intro hs (hl l hl').st
        repeat array_get_dec
        exact ⟨rfl, rfl⟩
      · intro l hl e
        repeat array_get_dec
        exact ⟨rfl, rfl⟩
      · intro _
        refine tL_nil (tC_fzMap (by sizeOf_list_dec) (filt_ok hl) ?_)
        repeat array_get_dec
        exact h
    | _ =>
      repeat array_get_dec
      refine tC_fz0 ?_
      repeat array_get_dec
      rw [killedE_none (fun l => rfl)] at h; exact h
end

end

local macro_rules | `(tactic| left) => `(tactic| first
  | (show tC _ _ (.ref 47) ..; refine c_killed (by sizeOf_list_dec) ‹_› ‹_› ‹_› ?_)
  | (show tC _ _ (.ref 52) ..; refine c_killedE (by sizeOf_list_dec) ‹_› ‹_› ‹_› ?_))

noncomputable section
noncomputable def endedB (l : Loan) (w : Place) : Bool := decide (w.l = l.p.l) && decide (l.p.st.take w.st.length = w.st) && (w.st.filter Step.isIdx).isEmpty
/-- data that == reads, not deep -/
noncomputable def Flat (d : D) : Prop := ∃ p, d.py = some p ∧ p.canLay0 = true ∧ p.depth ≤ 60
theorem flat_all : ∀ {ds : List D}, (∀ d ∈ ds, Flat d) → ∃ ps, pyAll ds = some ps ∧ PyData.canLayAll0 ps = true ∧ PyData.depthAll ps ≤ 60 ∧ ps.length = ds.length
  | [], _ => ⟨[], rfl, rfl, Nat.zero_le _, rfl⟩
  | d :: ds, h => by
    obtain ⟨p, e, c, b⟩ := h d List.mem_cons_self
    obtain ⟨ps, e', c', b', l'⟩ := flat_all (ds := ds) fun d hd => h d (List.mem_cons_of_mem _ hd)
    exact ⟨p :: ps, by simp only [pyAll, e, e'], by show (p.canLay0 && _) = true; rw [c, c']; rfl, Nat.max_le.mpr ⟨b, b'⟩, by simp [l']⟩
theorem Flat.int (i : Int) : Flat (.int i) := ⟨_, rfl, rfl, Nat.le_of_ble_eq_true rfl⟩
theorem Flat.step (a : Step) : Flat a.d := ⟨_, a.py_d, a.lay.1, Nat.le_trans a.lay.2 (by decide)⟩
theorem Flat.pt (i j : Int) : Flat (.tup [.int i, .int j]) := ⟨.tuple [.int i, .int j], rfl, rfl, Nat.le_of_ble_eq_true rfl⟩
section
variable {X : Cx} {A : Around} {H : Hp} {env : Env} {σ : Sto}
theorem t2_nilEq {d : D} {ds : List D} {Q : D → Hp → Prop} (ha : At H d (.lst ds)) (hf : ∀ d ∈ ds, Flat d) (hu : A.units + 64 < cLine) (h : Q (.bool ds.isEmpty) H) : t2 X A (compareOp .Eq) d (.lst []) H Q := by
  obtain ⟨ps, e, c, b, l⟩ := flat_all hf
  refine t2_eq (p := .list ps) (q := .list []) ha .z (by simp only [D.py, e, Option.map_some]) rfl ?_ rfl hu ?_
  · exact Bool.and_eq_true_iff.mpr ⟨c, decide_eq_true (by unfold PyData.depth; omega)⟩
  · cases ps <;> cases ds <;> first | exact h | cases l
theorem t2_nilNe {d : D} {ds : List D} {Q : D → Hp → Prop} (ha : At H d (.lst ds)) (hf : ∀ d ∈ ds, Flat d) (hu : A.units + 64 < cLine) (h : Q (.bool (!ds.isEmpty)) H) : t2 X A (compareOp .NotEq) d (.lst []) H Q := by
  obtain ⟨ps, e, c, b, l⟩ := flat_all hf
  refine t2_ne (p := .list ps) (q := .list []) ha .z (by simp only [D.py, e, Option.map_some]) rfl ?_ rfl hu ?_
  · exact Bool.and_eq_true_iff.mpr ⟨c, decide_eq_true (by unfold PyData.depth; omega)⟩
  · cases ps <;> cases ds <;> first | exact h | cases l
theorem c_after {e : End} {Q : D → Hp → Prop} (hr : Room A 1) (h : Q (.lst (e.to.map fun n : Nat => D.int n)) H) : tC X A (.ref 197) [e.d] H Q := by
  refine tC_def (X := X) (f := 197) (ds := [e.d]) (ho := by with_unfolding_all rfl) (by with_unfolding_all rfl) hr.lim ?_ ?_ ?_ ?_
  · intro s vs hk hl
    revert vs; refine len1 ?_; intro v1; exact BindsTo.of_eq (by with_unfolding_all rfl)
  · with_unfolding_all decide
  · intro L e0 A0
    cases e
    all_goals (repeat array_get_dec)
    all_goals exact h
  · with_unfolding_all decide
theorem c_ended {l : Loan} {w : Place} {Q : D → Hp → Prop} (hr : Room A 1) (hz : l.p.st.length ≤ 1000 ∧ w.st.length ≤ 1000) (h : Q (.bool (endedB l w)) H) : tC X A (.ref 235) [l.d, w.d] H Q := by
  refine tC_def (X := X) (f := 235) (ds := [l.d, w.d]) (ho := by with_unfolding_all rfl) (by with_unfolding_all rfl) hr.lim ?_ ?_ ?_ ?_
  · intro s vs hk hl
    revert vs; refine len2 ?_; intro v1 v2; exact BindsTo.of_eq (by with_unfolding_all rfl)
  · with_unfolding_all decide
  · intro L e0 A0
    have lp : (w.st.map Step.d).length < 2 ^ 62 := by rw [List.length_map]; omega
    repeat array_get_dec
    refine itB (fun e => ?_) (fun e => ?_)
    · repeat array_get_dec
      have : endedB l w = false := by
        have : decide (w.l = l.p.l) = false := by simpa [PyData.eqv] using e
        simp [endedB, this]
      rw [this] at h; exact h
    repeat array_get_dec
    refine tE_SliceT ?_
    repeat array_get_dec
    refine ⟨_, _, rfl, rfl, by rw [List.length_map]; exact Nat.le_trans hz.1 (by decide), ?_⟩
    rw [← List.map_take, List.length_map]
    repeat array_get_dec
    refine t2_neSteps (by sizeOf_list_dec) ?_
    repeat array_get_dec
    refine itB (fun e2 => ?_) (fun e2 => ?_)
    · repeat array_get_dec
      have : endedB l w = false := by
        have : decide (l.p.st.take w.st.length = w.st) = false := by simpa using e2
        simp [endedB, this]
      rw [this] at h; exact h
    repeat array_get_dec
    refine ⟨by rw [List.length_map]; exact Nat.le_trans hz.2 (by decide), fun C => LC_pure Step.d Step.isIdx Step.d rfl ?_ ?_ ?_⟩
    · intro a ha
      cases a
      all_goals repeat array_get_dec
      all_goals exact ⟨rfl, rfl⟩
    · intro a ha _
      repeat array_get_dec
      exact ⟨rfl, rfl⟩
    intro _
    repeat array_get_dec
    refine t2_nilEq .z (fun d hd => by obtain ⟨a, _, rfl⟩ := List.mem_map.mp hd; exact Flat.step a) (by sizeOf_list_dec) ?_
    repeat array_get_dec
    have e1 : decide (w.l = l.p.l) = true := by simpa [PyData.eqv] using e
    have e3 : decide (l.p.st.take w.st.length = w.st) = true := by simpa using e2
    have : endedB l w = (w.st.filter Step.isIdx).isEmpty := by rw [endedB, e1, e3]; rfl
    rw [this] at h
    rw [List.isEmpty_map]
    exact h
  · with_unfolding_all decide
end

end

local macro_rules | `(tactic| left) => `(tactic| first
  | (show tC _ _ (.ref 197) ..; refine c_after (by sizeOf_list_dec) ?_)
  | (show tC _ _ (.ref 235) ..; refine c_ended (by sizeOf_list_dec) ‹_› ?_))

noncomputable section
structure Src where
  x : Int
  y : Int
  hx : 0 ≤ x
  hy : 0 ≤ y
  hb : y < 2147483647
noncomputable def Src.d (s : Src) : D := .lst [.int s.x, .int s.y]
/-- draws were made at a: the rest of what H said stays -/
structure Drawn (a : Addr) (H H' : Hp) : Prop where
  src : ∃ s : Src, H' a = some s.d
  ext : ∀ b d, b ≠ a → H b = some d → H' b = some d
theorem Drawn.trans {a : Addr} {H H' H'' : Hp} (x : Drawn a H H') (y : Drawn a H' H'') : Drawn a H H'' := ⟨y.src, fun b d hb e => y.ext b d hb (x.ext b d hb e)⟩
theorem Drawn.refl {a : Addr} {H : Hp} (h : ∃ s : Src, H a = some s.d) : Drawn a H H := ⟨h, fun _ _ _ e => e⟩
theorem Drawn.put {a b : Addr} {H H' : Hp} {d : D} (x : Drawn a H H') (h : H b = none) (hb : b ≠ a) : Drawn a H (hput H' b d) := by
  refine ⟨?_, fun c d' hc e => ?_⟩
  · obtain ⟨s, hs⟩ := x.src; exact ⟨s, by rw [hput_ne (Ne.symm hb)]; exact hs⟩
  · rw [hput_ne (by rintro rfl; rw [h] at e; cases e)]; exact x.ext c d' hc e
theorem Drawn.del {a b : Addr} {H H' : Hp} (x : Drawn a H H') (h : H b = none) (hb : b ≠ a) : Drawn a H (hdel H' b) := by
  refine ⟨?_, fun c d' hc e => ?_⟩
  · obtain ⟨s, hs⟩ := x.src; exact ⟨s, by rw [hdel_ne (Ne.symm hb)]; exact hs⟩
  · rw [hdel_ne (by rintro rfl; rw [h] at e; cases e)]; exact x.ext c d' hc e
theorem hput_hput {H : Hp} {a : Addr} {d e : D} : hput (hput H a d) a e = hput H a e := by
  funext b; unfold hput; split <;> rfl
section
variable {X : Cx} {A : Around} {H : Hp} {env : Env} {σ : Sto}
theorem c_take {a : Addr} {top : Int} {Q : D → Hp → Prop} (hr : Room A 1) (hs : ∃ s : Src, H a = some s.d) (ht : 0 < top ∧ top < 1000000) (h : ∀ (i : Int) H', 0 ≤ i → i < top → Drawn a H H' → Q (.int i) H') : tC X A (.ref 183) [.raw (.ref a), .int top] H Q := by
  obtain ⟨s, hs⟩ := hs
  refine tC_def (X := X) (f := 183) (ds := [.raw (.ref a), .int top]) (ho := by with_unfolding_all rfl) (by with_unfolding_all rfl) hr.lim ?_ ?_ ?_ ?_
  · intro s vs hk hl
    revert vs; refine len2 ?_; intro v1 v2; exact BindsTo.of_eq (by with_unfolding_all rfl)
  · with_unfolding_all decide
  · intro L e0 A0
    obtain ⟨x, y, hx, hy, hb⟩ := s
    have hs' : H a = some (.lst [.int x, .int y]) := hs
    have ext : ∀ {d : D}, ∀ b e, b ≠ a → H b = some e → hput H a d b = some e := fun b e hb hh => by rw [hput_ne hb]; exact hh
    repeat array_get_dec
    refine itB (fun e => ?_) (fun e => ?_)
    · repeat array_get_dec
      refine t2_mod ht.1 ?_
      repeat array_get_dec
      refine t2_div ht.1 (by omega) ?_
      repeat array_get_dec
      refine tU_setL (k := 0) hs' rfl (Nat.le_of_ble_eq_true rfl) (Nat.le_of_ble_eq_true rfl) ?_
      repeat array_get_dec
      exact h _ _ (Int.emod_nonneg _ (by omega)) (Int.emod_lt_of_pos _ ht.1) ⟨⟨⟨x / top, y, Int.ediv_nonneg hx (by omega), hy, hb⟩, hput_self⟩, ext⟩
    · have m1 : 0 ≤ (y * 39373 + 7) % 2147483647 := Int.emod_nonneg _ (by decide)
      have m2 : (y * 39373 + 7) % 2147483647 < 2147483647 := Int.emod_lt_of_pos _ (by decide)
      have m3 : IntMulOk y 39373 := .of_right (intBits_le_64 (by decide) (by decide))
      have m4 : IntMulOk ((y * 39373 + 7) % 2147483647) ((y * 39373 + 7) % 2147483647) := .of_right (intBits_le_64 (by omega) (by omega))
      repeat array_get_dec
      refine t2_mul m3 ?_
      repeat array_get_dec
      refine t2_mod (by decide) ?_
      repeat array_get_dec
      refine tU_setL (k := 1) hs' rfl (Nat.le_of_ble_eq_true rfl) (Nat.le_of_ble_eq_true rfl) ?_
      have hs2 : hput H a (.lst ([.int x, .int y].set 1 (.int ((y * 39373 + 7) % 2147483647)))) a = some (.lst [.int x, .int ((y * 39373 + 7) % 2147483647)]) := hput_self
      repeat array_get_dec
      refine t2_mul m4 ?_
      repeat array_get_dec
      refine t2_mod (by decide) ?_
      repeat array_get_dec
      refine t2_div (by decide) (by decide) ?_
      repeat array_get_dec
      refine t2_mod ht.1 ?_
      repeat array_get_dec
      exact h _ _ (Int.emod_nonneg _ (by omega)) (Int.emod_lt_of_pos _ ht.1) ⟨⟨⟨x, _, hx, m1, m2⟩, hput_self⟩, ext⟩
  · with_unfolding_all decide
theorem c_one {a : Addr} {ds : List D} {Q : D → Hp → Prop} (hr : Room A 2) (hs : ∃ s : Src, H a = some s.d) (hz : 0 < ds.length ∧ ds.length < 1000000) (h : ∀ d H', d ∈ ds → Drawn a H H' → Q d H') : tC X A (.ref 190) [.raw (.ref a), .lst ds] H Q := by
  refine tC_def (X := X) (f := 190) (ds := [.raw (.ref a), .lst ds]) (ho := by with_unfolding_all rfl) (by with_unfolding_all rfl) hr.lim ?_ ?_ ?_ ?_
  · intro s vs hk hl
    revert vs; refine len2 ?_; intro v1 v2; exact BindsTo.of_eq (by with_unfolding_all rfl)
  · with_unfolding_all decide
  · intro L e0 A0
    have hz1 : ds.length < 2 ^ 62 := by omega
    repeat array_get_dec
    refine c_take (by sizeOf_list_dec) hs (by omega) fun i H' h0 h1 hd => ?_
    obtain ⟨k, rfl⟩ := Int.eq_ofNat_of_zero_le h0
    have hk : k < ds.length := by omega
    refine t2_itemL .z rfl h0 (by omega) (List.getElem?_eq_getElem hk) ?_
    repeat array_get_dec
    exact h _ _ (List.getElem_mem hk) hd
  · with_unfolding_all decide
end

end


noncomputable section
section
variable {X : Cx} {A : Around} {H : Hp} {env : Env} {σ : Sto}
structure Script (X : Cx) (l : Addr) : Prop where
  ex : ∃ vs ns, X.base.IsList l vs ∧ IntsAre vs.toList ns ∧ vs.size ≤ 63
theorem intsAre_zero {vs : List Value} {ns : List Int} (h : IntsAre vs ns) (hz : 0 < vs.length) : ∃ i t, vs[0]? = some (.int i t) := by
  cases h with
  | nil => simp at hz
  | cons => exact ⟨_, _, rfl⟩
theorem c_pool {l : Addr} {Q : D → Hp → Prop} (hr : Room A 1) (hs : Script X l) (h : ∀ (a : Addr) (s : Src), H a = none → Q (.raw (.ref a)) (hput H a s.d)) : tC X A (.ref 176) [.raw (.ref l)] H Q := by
  obtain ⟨vs, ns, hl, hi, hz⟩ := hs
  have len : ∀ {A : Around} {Q : D → Hp → Prop}, Q (.int vs.size) H → tC X A (.builtin "len") [.raw (.ref l)] H Q := fun hq s Z ws o r => by
    (obtain ⟨v, hv, r1⟩ := r.one); clear r; subst hv; have r := r1
    have := r.raw_eq; subst this
    obtain ⟨ob, e, r⟩ := hl
    exact Calls.call_len_list ⟨ob, o.base _ _ e, r⟩ (by omega) (.tok _ o (.int _ _) hq)
  have item : ∀ {oe ie : Expr} {A : Around} {Q : D → Hp → Prop}, 0 < vs.size → (∀ i, Q (.int i) H) → (∀ a u, subscripted ie false (.ref a) (.int 0 u) = operate [.ref a, .int 0 u] (getItem (.ref a) (.int 0 u))) → t2 X A (subscriptTail oe ie) (.raw (.ref l)) (.int 0) H Q := fun hp hq hsub s Z v u o r r' => by
    have := r.raw_eq; subst this
    obtain ⟨_, rfl⟩ := r'.toInt
    obtain ⟨i, t, hx⟩ := intsAre_zero hi (by rw [Array.length_toList]; exact hp)
    obtain ⟨ob, e, r⟩ := hl
    have ht : s.heap.IsList l vs := ⟨ob, o.base _ _ e, r⟩
    exact tail_any ht.typeIs slot_list_getitem.lookup (wpAny_getItem_list (x := .int i t) ht (by decide) (by decide) (by simpa using hx) (.now o (.int _ _) (hq i))) (hsub _ _)
  refine tC_def (X := X) (f := 176) (ds := [.raw (.ref l)]) (ho := by with_unfolding_all rfl) (by with_unfolding_all rfl) hr.lim ?_ ?_ ?_ ?_
  · intro s vs hk hl
    revert vs; refine len1 ?_; intro v1; exact BindsTo.of_eq (by with_unfolding_all rfl)
  · with_unfolding_all decide
  · intro L e0 A0
    refine tS_cons (tX_Assign (tE.mono (Q := fun d H' => H = H' ∧ ∃ c : Int, d = .int c) ?_ ?_) (by with_unfolding_all rfl) (by with_unfolding_all rfl) (by with_unfolding_all rfl))
    · refine tE_IfExp ?_
      repeat array_get_dec
      refine len ?_
      repeat array_get_dec
      refine itB (fun e => ?_) (fun e => ?_)
      · repeat array_get_dec
        refine item (by have := of_decide_eq_true e; omega) (fun i => ?_) (by intro _ _; with_unfolding_all rfl)
        exact ⟨rfl, _, rfl⟩
      · repeat array_get_dec
        exact ⟨rfl, _, rfl⟩
    rintro _ _ ⟨rfl, c, rfl⟩
    array_get_dec
    refine tS_cons (tX_Assign (tE.mono (Q := fun d H' => H = H' ∧ ∃ c : Int, d = .int c ∧ 0 ≤ c) ?_ ?_) (by with_unfolding_all rfl) (by with_unfolding_all rfl) (by with_unfolding_all rfl))
    · refine tE_IfExp ?_
      repeat array_get_dec
      refine itB (fun e => ?_) (fun e => ?_)
      · repeat array_get_dec
        exact ⟨rfl, _, rfl, of_decide_eq_true e⟩
      · repeat array_get_dec
        exact ⟨rfl, _, rfl, by have := of_decide_eq_false e; omega⟩
    rintro _ _ ⟨rfl, z, rfl, hz0⟩
    array_get_dec
    refine tS_cons (tX_Return (tE_ListM (by with_unfolding_all rfl) ?_))
    refine tL_cons (tE.mono (Q := fun d H' => H = H' ∧ ∃ c : Int, d = .int c ∧ 0 ≤ c) ?_ ?_)
    · refine tE_IfExp ?_
      repeat array_get_dec
      refine t2_pow (by decide) (by decide) ?_
      repeat array_get_dec
      refine itB (fun e => ?_) (fun e => ?_)
      · repeat array_get_dec
        exact ⟨rfl, _, rfl, hz0⟩
      · repeat array_get_dec
        exact ⟨rfl, _, rfl, Int.le_refl _⟩
    rintro _ _ ⟨rfl, x, rfl, hx0⟩
    repeat array_get_dec
    refine t2_mod (by decide) ?_
    repeat array_get_dec
    refine t2_mul (.of_right (intBits_le_64 (by decide) (by decide))) ?_
    repeat array_get_dec
    refine t2_mod (by decide) ?_
    repeat array_get_dec
    intro a ha
    exact subR (h a ⟨x, _, hx0, Int.emod_nonneg _ (by decide), Int.emod_lt_of_pos _ (by decide)⟩ ha)
  · with_unfolding_all decide
end

end

noncomputable section
section
variable {X : Cx} {A : Around} {H : Hp} {env : Env} {σ : Sto}
theorem c_place {a : Addr} {Q : D → Hp → Prop} (hr : Room A 3) (hs : ∃ s : Src, H a = some s.d) (h : ∀ (p : Place) H', p.st.length ≤ 2 → Drawn a H H' → Q p.d H') : tC X A (.ref 216) [.raw (.ref a)] H Q := by
  refine tC_def (X := X) (f := 216) (ds := [.raw (.ref a)]) (ho := by with_unfolding_all rfl) (by with_unfolding_all rfl) hr.lim ?_ ?_ ?_ ?_
  · intro s vs hk hl
    revert vs; refine len1 ?_; intro v1; exact BindsTo.of_eq (by with_unfolding_all rfl)
  · with_unfolding_all decide
  · intro L e0 A0
    repeat array_get_dec
    refine c_take (by sizeOf_list_dec) hs (by decide) fun i H1 h0 h1 d1 => ?_
    repeat array_get_dec
    refine c_one (by sizeOf_list_dec) d1.src ⟨Nat.le_of_ble_eq_true rfl, Nat.le_of_ble_eq_true rfl⟩ fun d H2 hd d2 => ?_
    repeat array_get_dec
    have : ∃ st : List Step, st.length ≤ 2 ∧ d = .tup (st.map Step.d) := by
      simp only [List.mem_cons, List.not_mem_nil, or_false] at hd
      rcases hd with rfl | rfl | rfl | rfl | rfl | rfl | rfl
      · exact ⟨[], by decide, rfl⟩
      · exact ⟨[], by decide, rfl⟩
      · exact ⟨[.field 0], by decide, rfl⟩
      · exact ⟨[.field 1], by decide, rfl⟩
      · exact ⟨[.field 0, .deref], by decide, rfl⟩
      · exact ⟨[.deref], by decide, rfl⟩
      · exact ⟨[.index 1], by decide, rfl⟩
    obtain ⟨st, hst, rfl⟩ := this
    exact h ⟨1 + i, st⟩ H2 hst (d1.trans d2)
  · with_unfolding_all decide
theorem c_stmt {a : Addr} {Q : D → Hp → Prop} (hr : Room A 4) (hs : ∃ s : Src, H a = some s.d) (h : ∀ (st : St) H', st.Ok → Drawn a H H' → Q st.d H') : tC X A (.ref 223) [.raw (.ref a)] H Q := by
  refine tC_def (X := X) (f := 223) (ds := [.raw (.ref a)]) (ho := by with_unfolding_all rfl) (by with_unfolding_all rfl) hr.lim ?_ ?_ ?_ ?_
  · intro s vs hk hl
    revert vs; refine len1 ?_; intro v1; exact BindsTo.of_eq (by with_unfolding_all rfl)
  · with_unfolding_all decide
  · intro L e0 A0
    repeat array_get_dec
    refine c_take (by sizeOf_list_dec) hs (by decide) fun i H1 h0 h1 d1 => ?_
    repeat array_get_dec
    refine itB (fun e => ?_) (fun e => ?_)
    · repeat array_get_dec
      refine c_place (by sizeOf_list_dec) d1.src fun p H2 hp d2 => ?_
      repeat array_get_dec
      exact h (.assign p _) H2 (Nat.le_trans hp (by decide)) (d1.trans d2)
    repeat array_get_dec
    refine itB (fun e => ?_) (fun e => ?_)
    · repeat array_get_dec
      refine c_place (by sizeOf_list_dec) d1.src fun p H2 hp d2 => ?_
      repeat array_get_dec
      exact h (.assign p _) H2 (Nat.le_trans hp (by decide)) (d1.trans d2)
    repeat array_get_dec
    refine itB (fun e => ?_) (fun e => ?_)
    · repeat array_get_dec
      refine c_take (by sizeOf_list_dec) d1.src (by decide) fun j H2 _ _ d2 => ?_
      repeat array_get_dec
      exact h (.dead (1 + j)) H2 trivial (d1.trans d2)
    · repeat array_get_dec
      exact h .nop H1 trivial d1
  · with_unfolding_all decide
theorem c_end {a : Addr} {many : Nat} {Q : D → Hp → Prop} (hr : Room A 4) (hs : ∃ s : Src, H a = some s.d) (hm : 0 < many ∧ many < 1000) (h : ∀ (e : End) H', e.Ok → (∀ t ∈ e.to, t < many) → Drawn a H H' → Q e.d H') : tC X A (.ref 230) [.raw (.ref a), .int many] H Q := by
  refine tC_def (X := X) (f := 230) (ds := [.raw (.ref a), .int many]) (ho := by with_unfolding_all rfl) (by with_unfolding_all rfl) hr.lim ?_ ?_ ?_ ?_
  · intro s vs hk hl
    revert vs; refine len2 ?_; intro v1 v2; exact BindsTo.of_eq (by with_unfolding_all rfl)
  · with_unfolding_all decide
  · intro L e0 A0
    refine tS_cons (tX_Swap (by sizeOf_list_dec) (by with_unfolding_all rfl) (by with_unfolding_all rfl) (by with_unfolding_all rfl) (by with_unfolding_all rfl) rfl rfl ?_ (by with_unfolding_all rfl))
    repeat array_get_dec
    refine c_take (by sizeOf_list_dec) hs (by omega) fun i H1 i0 i1 d1 => ?_
    obtain ⟨i, rfl⟩ := Int.eq_ofNat_of_zero_le i0
    repeat array_get_dec
    refine c_take (by sizeOf_list_dec) d1.src (by omega) fun j H2 j0 j1 d2 => ?_
    obtain ⟨j, rfl⟩ := Int.eq_ofNat_of_zero_le j0
    repeat array_get_dec
    refine c_place (by sizeOf_list_dec) d2.src fun p H3 hp d3 => ?_
    repeat array_get_dec
    refine c_one (by sizeOf_list_dec) d3.src ⟨Nat.le_of_ble_eq_true rfl, Nat.le_of_ble_eq_true rfl⟩ fun d H4 hd d4 => ?_
    repeat array_get_dec
    have dd := ((d1.trans d2).trans d3).trans d4
    have hi : i < many := by omega
    have hj : j < many := by omega
    simp only [List.mem_cons, List.not_mem_nil, or_false] at hd
    rcases hd with rfl | rfl | rfl | rfl | rfl
    · exact h (.goto i) H4 trivial (by simp [End.to, hi]) dd
    · exact h (.switch i j) H4 trivial (by simp [End.to, hi, hj]) dd
    · exact h .ret H4 trivial (by simp [End.to]) dd
    · exact h (.call p i) H4 (Nat.le_trans hp (by decide)) (by simp [End.to, hi]) dd
    · exact h (.goto j) H4 trivial (by simp [End.to, hj]) dd
  · with_unfolding_all decide
end

end

noncomputable section
structure Bk where
  ss : List St
  e : End
noncomputable def Bk.d (k : Bk) : D := .lst [.lst (k.ss.map St.d), k.e.d]
structure Bk.Ok (N : Nat) (k : Bk) : Prop where
  ss : ∀ s ∈ k.ss, s.Ok
  e : k.e.Ok
  len : k.ss.length < 4
  to : ∀ t ∈ k.e.to, t < N
abbrev Pt := Nat × Nat
noncomputable def ptD (p : Pt) : D := .tup [.int p.1, .int p.2]
noncomputable def nextK (k : Bk) (p : Pt) : List Pt := if p.2 < k.ss.length then [(p.1, p.2 + 1)] else k.e.to.map fun t => (t, 0)
noncomputable def endS : St → Loan → Bool
  | .assign p _, l => endedB l p
  | .dead x, l => decide (x = l.p.l)
  | .nop, _ => false
noncomputable def endE : End → Loan → Bool
  | .call p _, l => endedB l p
  | _, _ => false
noncomputable def goesK (k : Bk) (p : Pt) (l : Loan) : Bool := match k.ss[p.2]? with
  | none => !endE k.e l
  | some s => decide ((l.b, l.i) = p) || !endS s l
theorem eqv_pt (p q : Pt) : PyData.eqv (.tuple [.int p.1, .int p.2]) (.tuple [.int q.1, .int q.2]) = decide (p = q) := by
  obtain ⟨a, b⟩ := p; obtain ⟨c, d⟩ := q
  show ((((a : Int) == c) && (((b : Int) == d) && true)) : Bool) = _
  rw [Bool.eq_iff_iff]; simp; omega
section
variable {X : Cx} {A : Around} {H : Hp} {env : Env} {σ : Sto}
theorem t1_not {t : Bool} {Q : D → Hp → Prop} (h : Q (.bool (!t)) H) : t1 X A (unaryOp .Not) (.bool t) H Q := fun s Z v o r => by
  rw [r.toBool]
  exact not_of (wpAny_truthy_bool (.now o (.bool _) h))
theorem LC_map {α : Type} {C : Addr} {x : Str} {elt : Expr} {Q : List D → Hp → Prop} (f : α → D) (g : α → D) {ls : List α} {ds : List D} (e : ds = ls.map f)
    (he : ∀ a ∈ ls, tE X A env elt (sput σ x (f a)) H (fun e H₃ => H₃ = H ∧ e = g a)) (h : Q (ls.map g) H) : LC X A env x [] elt σ (fun acc H₂ => acc.length ≤ ds.length → Q acc H₂) ds [] H :=
  LC_pure f (fun _ => true) g e (fun _ _ => ⟨rfl, rfl⟩) (fun a ha _ => he a ha) (fun _ => by rw [List.filter_eq_self.mpr (fun _ _ => rfl)]; exact h)
theorem c_next {bs : List Bk} {k : Bk} {p : Pt} {Q : D → Hp → Prop} (hr : Room A 2) (hk : bs[p.1]? = some k) (hz : p.1 < 1000000 ∧ k.Ok bs.length ∧ p.2 < 10) (h : ∀ a, H a = none → Q (.raw (.ref a)) (hput H a (.lst ((nextK k p).map ptD)))) : tC X A (.ref 247) [.lst (bs.map Bk.d), ptD p] H Q := by
  refine tC_def (X := X) (f := 247) (ds := [.lst (bs.map Bk.d), ptD p]) (ho := by with_unfolding_all rfl) (by with_unfolding_all rfl) hr.lim ?_ ?_ ?_ ?_
  · intro s vs hk hl
    revert vs; refine len2 ?_; intro v1 v2; exact BindsTo.of_eq (by with_unfolding_all rfl)
  · with_unfolding_all decide
  · intro L e0 A0
    obtain ⟨b, i⟩ := p
    have hb : (bs.map Bk.d)[((b : Nat) : Int).toNat]? = some k.d := by rw [Int.toNat_natCast, List.getElem?_map, hk]; rfl
    have hzz := hz.2.1.len
    have l1 : (k.ss.map St.d).length < 2 ^ 62 := by rw [List.length_map]; omega
    repeat array_get_dec
    refine t2_itemL (k := b) .z rfl (by omega) (by omega) hb ?_
    refine tA_lst (by sizeOf_list_dec) .z (by with_unfolding_all rfl) (by with_unfolding_all rfl) ?_
    repeat array_get_dec
    refine itB (fun e => ?_) (fun e => ?_)
    · refine tS_cons (tX_Return (tE_ListM (by with_unfolding_all rfl) ?_))
      repeat array_get_dec
      intro a ha
      have : nextK k (b, i) = [(b, i + 1)] := by
        have := of_decide_eq_true e
        rw [List.length_map] at this
        exact if_pos (by simpa using this)
      rw [this] at h
      exact subR (h a ha)
    · array_get_dec
      refine tS_cons (tX_Return (tE_CompMB (by with_unfolding_all rfl) (by intro _; with_unfolding_all rfl) ?_))
      repeat array_get_dec
      have : k.e.to.length ≤ sizeLine := by cases k.e <;> exact Nat.le_of_ble_eq_true rfl
      refine ⟨by rw [List.length_map]; exact this, fun C => LC_map (C := C) (fun n : Nat => D.int n) (fun n : Nat => ptD (n, 0)) rfl ?_ ?_⟩
      · intro n hn
        repeat array_get_dec
        exact ⟨rfl, rfl⟩
      · intro a ha
        have : nextK k (b, i) = k.e.to.map fun t => (t, 0) := by
          have := of_decide_eq_false e
          rw [List.length_map] at this
          exact if_neg (by simpa using this)
        rw [this, List.map_map] at h
        exact subR (h a ha)
  · with_unfolding_all decide
theorem c_goes {bs : List Bk} {k : Bk} {p : Pt} {l : Loan} {Q : D → Hp → Prop} (hr : Room A 2) (hk : bs[p.1]? = some k) (hz : p.1 < 1000000 ∧ k.Ok bs.length ∧ p.2 ≤ k.ss.length) (hl : l.Ok) (h : Q (.bool (goesK k p l)) H) : tC X A (.ref 242) [.lst (bs.map Bk.d), ptD p, l.d] H Q := by
  refine tC_def (X := X) (f := 242) (ds := [.lst (bs.map Bk.d), ptD p, l.d]) (ho := by with_unfolding_all rfl) (by with_unfolding_all rfl) hr.lim ?_ ?_ ?_ ?_
  · intro s vs hk hl
    revert vs; refine len3 ?_; intro v1 v2 v3; exact BindsTo.of_eq (by with_unfolding_all rfl)
  · with_unfolding_all decide
  · intro L e0 A0
    obtain ⟨b, i⟩ := p
    have hb : (bs.map Bk.d)[((b : Nat) : Int).toNat]? = some k.d := by rw [Int.toNat_natCast, List.getElem?_map, hk]; rfl
    have hzz := hz.2.1.len
    have l1 : (k.ss.map St.d).length < 2 ^ 62 := by rw [List.length_map]; omega
    repeat array_get_dec
    refine t2_itemL (k := b) .z rfl (by omega) (by omega) hb ?_
    refine tA_lst (by sizeOf_list_dec) .z (by with_unfolding_all rfl) (by with_unfolding_all rfl) ?_
    repeat array_get_dec
    have hlen : ((i : Int) = (k.ss.map St.d).length) ↔ i = k.ss.length := by rw [List.length_map]; omega
    refine itB (fun e => ?_) (fun e => ?_)
    · have e' : i = k.ss.length := hlen.mp (of_decide_eq_true (show decide ((i : Int) = (k.ss.map St.d).length) = true from e))
      have hg : goesK k (b, i) l = !endE k.e l := by
        have : k.ss[i]? = none := by rw [e', List.getElem?_eq_none (Nat.le_refl _)]
        unfold goesK; show (match k.ss[i]? with | none => _ | some s => _) = _; rw [this]
      have he := hz.2.1.e
      obtain ⟨ss, en⟩ := k
      cases en with
      | call q t =>
        have hp := And.intro hl.st (show q.st.length ≤ 1000 from he)
        repeat array_get_dec
        refine t1_not ?_
        repeat array_get_dec
        rw [hg] at h; exact h
      | _ =>
        repeat array_get_dec
        rw [hg] at h; exact h
    · have e' : i ≠ k.ss.length := fun q => absurd (hlen.mpr q) (of_decide_eq_false (show decide ((i : Int) = (k.ss.map St.d).length) = false from e))
      have hi : i < k.ss.length := by have := hz.2.2; show i < _; have : (b, i).snd = i := rfl; omega
      have hst : (k.ss.map St.d)[((i : Nat) : Int).toNat]? = some (k.ss[i].d) := by rw [Int.toNat_natCast, List.getElem?_map, List.getElem?_eq_getElem hi]; rfl
      have hso := hz.2.1.ss _ (List.getElem_mem hi)
      have hg : goesK k (b, i) l = (decide ((l.b, l.i) = (b, i)) || !endS k.ss[i] l) := by
        unfold goesK; show (match k.ss[i]? with | none => _ | some s => _) = _; rw [List.getElem?_eq_getElem hi]
      rw [hg] at h
      generalize k.ss[i] = st at hst hso h
      repeat array_get_dec
      refine t2_itemL (k := i) .z rfl (by omega) (by omega) hst ?_
      repeat array_get_dec
      rw [eqv_pt (l.b, l.i) (b, i)]
      refine itB (fun e => ?_) (fun e => ?_)
      · repeat array_get_dec
        rw [e] at h; exact h
      rw [e] at h
      have h : Q (.bool (!endS st l)) H := h
      cases st with
      | assign q t =>
        have hp := And.intro hl.st (show q.st.length ≤ 1000 from hso)
        repeat array_get_dec
        refine t1_not ?_
        repeat array_get_dec
        exact h
      | dead x =>
        repeat array_get_dec
        exact h
      | nop =>
        repeat array_get_dec
        exact h
  · with_unfolding_all decide
end

end

noncomputable section
noncomputable def Ext (H H' : Hp) : Prop := ∀ b e, H b = some e → H' b = some e
theorem Ext.refl (H : Hp) : Ext H H := fun _ _ e => e
theorem Ext.put {H H' : Hp} {f : Addr} {d : D} (x : Ext H H') (h : H f = none) : Ext H (hput H' f d) := fun b e he => by
  rw [hput_ne (by rintro rfl; rw [h] at he; cases he)]; exact x b e he
theorem sub_of {H H' : Hp} {f : Addr} {d : D} (x : Ext H H') (hf : H' f = some d) : Sub (hput H f d) H' := fun b e h => by
  by_cases q : b = f
  · subst q; rw [hput_self] at h; rw [hf]; exact h
  · rw [hput_ne q] at h; exact x b e h
noncomputable def succs (bs : List Bk) (b : Nat) : List Nat := match bs[b]? with
  | some k => k.e.to
  | none => []
inductive Reach (bs : List Bk) : Nat → Prop
  | zero : Reach bs 0
  | step {b t : Nat} : Reach bs b → t ∈ succs bs b → Reach bs t
structure BsOk (bs : List Bk) : Prop where
  pos : 0 < bs.length
  len : bs.length < 4
  ok : ∀ k ∈ bs, k.Ok bs.length
theorem BsOk.succ {bs : List Bk} (h : BsOk bs) {b t : Nat} (ht : t ∈ succs bs b) : t < bs.length := by
  unfold succs at ht; split at ht
  · rename_i k hk; exact (h.ok k (List.mem_of_getElem? hk)).to t ht
  · cases ht
structure CI (bs : List Bk) (fs ls : List Nat) (x : Option Nat) : Prop where
  nd : fs.Nodup
  zero : 0 ∈ fs
  lt : ∀ b ∈ fs, b < bs.length
  sub : ∀ b ∈ ls, b ∈ fs
  reach : ∀ b ∈ fs, Reach bs b
  closed : ∀ b ∈ fs, b ∉ ls → some b ≠ x → ∀ t ∈ succs bs b, t ∈ fs
theorem CI.size {bs : List Bk} {fs ls : List Nat} {x : Option Nat} (c : CI bs fs ls x) : fs.length ≤ bs.length := by
  have := c.nd.length_le_of_subset (l₂ := List.range bs.length) (fun b hb => List.mem_range.mpr (c.lt b hb))
  rwa [List.length_range] at this
theorem CI.pop {bs : List Bk} {fs ls : List Nat} {b : Nat} (c : CI bs fs (ls ++ [b]) none) : CI bs fs ls (some b) :=
  ⟨c.nd, c.zero, c.lt, fun t ht => c.sub t (by simp [ht]), c.reach, fun t ht hl hx => c.closed t ht (by simp only [List.mem_append, List.mem_singleton, not_or]; exact ⟨hl, fun q => hx (by rw [q])⟩) (by simp)⟩
theorem CI.push {bs : List Bk} {fs ls : List Nat} {b t : Nat} (c : CI bs fs ls (some b)) (hb : b ∈ fs) (ht : t ∈ succs bs b) (hbs : BsOk bs) (hn : t ∉ fs) : CI bs (fs ++ [t]) (ls ++ [t]) (some b) := by
  refine ⟨?_, by simp [c.zero], ?_, ?_, ?_, ?_⟩
  · rw [List.nodup_append]; exact ⟨c.nd, by simp, fun x hx y hy => by rw [List.mem_singleton] at hy; subst hy; rintro rfl; exact hn hx⟩
  · intro x hx; rcases List.mem_append.mp hx with hx | hx
    · exact c.lt x hx
    · rw [List.mem_singleton] at hx; subst hx; exact hbs.succ ht
  · intro x hx; rcases List.mem_append.mp hx with hx | hx
    · exact List.mem_append_left _ (c.sub x hx)
    · exact List.mem_append_right _ hx
  · intro x hx; rcases List.mem_append.mp hx with hx | hx
    · exact c.reach x hx
    · rw [List.mem_singleton] at hx; subst hx; exact .step (c.reach b hb) ht
  · intro x hx hl hxb y hy
    rw [List.mem_append, not_or] at hl
    rcases List.mem_append.mp hx with hx | hx
    · exact List.mem_append_left _ (c.closed x hx hl.1 hxb y hy)
    · exact absurd hx hl.2
theorem CI.done {bs : List Bk} {fs : List Nat} (c : CI bs fs [] none) (b : Nat) : b ∈ fs ↔ Reach bs b := by
  refine ⟨c.reach b, fun h => ?_⟩
  induction h with
  | zero => exact c.zero
  | step _ ht ih => exact c.closed _ ih (by simp) (by simp) _ ht
theorem any_int (l : List Nat) (n : Nat) : ((l.map fun n : Nat => PyData.int n).any fun y => PyData.eqv y (.int n)) = decide (n ∈ l) := by
  induction l with
  | nil => rfl
  | cons a l ih =>
    rw [List.map_cons, List.any_cons, ih]
    show (decide ((a : Int) = n) || _) = _
    rw [Bool.eq_iff_iff]; simp; constructor
    · rintro (h | h)
      · left; omega
      · right; exact h
    · rintro (h | h)
      · left; omega
      · right; exact h
noncomputable def intsD (l : List Nat) : D := .lst (l.map fun n : Nat => D.int n)
inductive CoI1 (bs : List Bk) (S0 : Sto) (H : Hp) (f l : Addr) (n : Nat) (σ : Sto) (H' : Hp) : Prop
  | mk (i1 : Less S0 σ) (i2 : Ext H H') (fs ls : List Nat) (i3 : H' f = some (intsD fs)) (i4 : H' l = some (intsD ls)) (i5 : CI bs fs ls none) (i6 : ls.length + 2 * (bs.length - fs.length) = n) (i7 : n ≤ 7)
inductive CoI2 (bs : List Bk) (S0 : Sto) (H : Hp) (f l : Addr) (b n : Nat) (ds : List D) (σ : Sto) (H₁ : Hp) : Prop
  | mk (i1 : Less S0 σ) (i2 : Ext H H₁) (fs' ls' ts' : List Nat) (i3 : ds = (ts'.map fun n : Nat => D.int n)) (i4 : H₁ f = some (intsD fs')) (i5 : H₁ l = some (intsD ls')) (i6 : CI bs fs' ls' (some b)) (i7 : b ∈ fs') (i8 : (∀ t ∈ ts', t ∈ succs bs b)) (i9 : (∀ t ∈ succs bs b, t ∈ ts' ∨ t ∈ fs')) (i10 : ls'.length + 2 * (bs.length - fs'.length) < n)
section
variable {X : Cx} {A : Around} {H : Hp} {env : Env} {σ : Sto}
theorem intsD_py (l : List Nat) : (intsD l).py = some (.list (l.map fun n : Nat => PyData.int n)) := by
  have : ∀ l : List Nat, pyAll (l.map fun n : Nat => D.int n) = some (l.map fun n : Nat => PyData.int n) := fun l => by
    induction l with
    | nil => rfl
    | cons a l ih => simp only [List.map_cons, pyAll, ih]; rfl
  simp only [intsD, D.py, this, Option.map_some]
theorem ints_lay (l : List Nat) : PyData.canLayAll0 (l.map fun n : Nat => PyData.int n) = true := by
  induction l with
  | nil => rfl
  | cons a l ih => show (_ && _) = true; rw [ih]; rfl
theorem less_of {σ : Sto} : ∀ {l : List (Str × D)}, (l.map fun p => σ p.1) = (l.map fun p => some p.2) → Less (stoL l) σ
  | [], _, x => .inl rfl
  | (y, d) :: r, h, x => by
    obtain ⟨h1, h2⟩ := List.cons.inj h
    unfold stoL; rw [List.lookup_cons]
    cases q : (x == y) with
    | true => rw [eq_of_beq q]; exact .inr h1.symm
    | false => exact less_of h2 x
theorem Less.both {σ σ' : Sto} {x : Str} {d : D} (h : Less σ σ') : Less (sput σ x d) (sput σ' x d) := fun y => by
  unfold sput; split
  · exact .inr rfl
  · exact h y
theorem flat_ints (l : List Nat) : ∀ d ∈ (l.map fun n : Nat => D.int n), Flat d := fun d hd => by
  obtain ⟨a, _, rfl⟩ := List.mem_map.mp hd; exact Flat.int _
theorem c_come {bs : List Bk} {Q : D → Hp → Prop} (hr : Room A 2) (hb : BsOk bs) (h : ∀ f fs, H f = none → fs.Nodup → (∀ b, b ∈ fs ↔ Reach bs b) → Q (.raw (.ref f)) (hput H f (intsD fs))) : tC X A (.ref 254) [.lst (bs.map Bk.d)] H Q := by
  refine tC_def (X := X) (f := 254) (ds := [.lst (bs.map Bk.d)]) (ho := by with_unfolding_all rfl) (by with_unfolding_all rfl) hr.lim ?_ ?_ ?_ ?_
  · intro s vs hk hl
    revert vs; refine len1 ?_; intro v1; exact BindsTo.of_eq (by with_unfolding_all rfl)
  · with_unfolding_all decide
  · intro L e0 A0
    refine tS_cons (tX_Swap (by sizeOf_list_dec) (by with_unfolding_all rfl) (by with_unfolding_all rfl) (by with_unfolding_all rfl) (by with_unfolding_all rfl) rfl rfl ?_ (by with_unfolding_all rfl))
    refine tE_ListM (by with_unfolding_all rfl) ?_
    repeat array_get_dec
    intro f hf
    refine tE_ListM (by with_unfolding_all rfl) ?_
    repeat array_get_dec
    intro l hl
    have hlf : l ≠ f := fun q => by rw [q, hput_self] at hl; cases hl
    have hl0 : H l = none := by rw [hput_ne hlf] at hl; exact hl
    let S0 : Sto := stoL [("blocks", .lst (bs.map Bk.d)), ("found", .raw (.ref f)), ("left", .raw (.ref l))]
    refine tS_cons (tX_While 1000 (LW_ind (CoI1 bs S0 H f l) ?_ 1000 (1 + 2 * (bs.length - 1)) _ _ (by have := hb.len; omega) ⟨?_, ?_, [0], [0], ?_, ?_, ?_, rfl, by have := hb.len; omega⟩))
    · rintro n σ H' ⟨hS, hE, fs, ls, hF, hL, c, hn, hn7⟩
      refine tT.less (σ' := S0) ?_ hS
      repeat array_get_dec
      refine t2_nilNe (.h hL) (flat_ints ls) (by sizeOf_list_dec) ?_
      repeat array_get_dec
      refine itB (fun e => ?_) (fun e => ?_)
      · rcases List.eq_nil_or_concat ls with rfl | ⟨ls, b, rfl⟩
        · cases e
        rw [List.concat_eq_append] at hL c hn
        have hbf : b ∈ fs := c.sub b (by simp)
        have hbl : b < bs.length := c.lt b hbf
        have hbk : (bs.map Bk.d)[((b : Nat) : Int).toNat]? = some (bs[b].d) := by rw [Int.toNat_natCast, List.getElem?_map, List.getElem?_eq_getElem hbl]; rfl
        have hsu : succs bs b = bs[b].e.to := by unfold succs; rw [List.getElem?_eq_getElem hbl]
        have hto : (bs[b].e.to).length ≤ 2 := by cases bs[b].e <;> exact Nat.le_of_ble_eq_true rfl
        refine tS.less (σ' := S0) ?_ hS
        refine tS_cons (tX_For ?_ (by intro _ _; rfl) (by intro _; with_unfolding_all rfl))
        repeat array_get_dec
        refine tG_pop hL ?_
        repeat array_get_dec
        refine tC_pop (d := .int b) hL (by rw [List.length_map]; exact Nat.le_trans (m := 7) (by omega) (by decide)) (by simp) ?_
        refine t2_itemL (k := b) .z rfl (by omega) (by have := hb.len; omega) hbk ?_
        repeat array_get_dec
        refine t2_itemL (k := 1) .z rfl (by decide) (by decide) rfl ?_
        repeat array_get_dec
        have hP := c.pop
        refine LF_indA (CoI2 bs S0 H f l b n) ?_ ?_ _ _ _
          ⟨Less.refl _, hE.put hl0, fs, ls, _, rfl, ?_, ?_, hP, hbf, ?_, ?_, ?_⟩
        · rintro σ H₁ ⟨hS, hE, fs', ls', ts', e, hF, hL, c, hbf, hts, hall, hlt⟩
          have : ts' = [] := by cases ts' with | nil => rfl | cons => cases e
          subst this
          refine tS_nil ⟨_, hlt, hS, hE, fs', ls', hF, hL, ⟨c.nd, c.zero, c.lt, c.sub, c.reach, fun t ht hl _ => ?_⟩, rfl, by omega⟩
          by_cases q : t = b
          · subst q; exact fun y hy => (hall y hy).resolve_left (by simp)
          · exact c.closed t ht hl (fun q' => q (by injection q'))
        · rintro Q' d ds σ H₁ ⟨hS, hE, fs', ls', ts', e, hF, hL, c, hbf, hts, hall, hlt⟩
          cases ts' with
          | nil => cases e
          | cons t ts' =>
            injection e with e1 e2
            subst e1
            have hS1 : Less S0 (sput S0 "block" (.int t)) := (Less.refl S0).put (by with_unfolding_all rfl)
            have hsz := c.size
            have hb4 := hb.len
            refine tA_loc (by with_unfolding_all rfl) (by with_unfolding_all rfl) ?_
            refine tS.less (σ' := sput S0 "block" (.int t)) ?_ ?_
            · repeat array_get_dec
              refine t2_notIn (.h hF) rfl (intsD_py fs') rfl (Nat.le_of_ble_eq_true rfl) (ints_lay fs') (by sizeOf_list_dec) ?_
              rw [any_int]
              repeat array_get_dec
              refine itB (fun e => ?_) (fun e => ?_)
              · have hn : t ∉ fs' := by simpa using e
                have hc := c.push hbf (hts t List.mem_cons_self) hb hn
                have hsz2 := hc.size
                rw [List.length_append] at hsz2
                have hsz3 : fs'.length + 1 ≤ bs.length := hsz2
                repeat array_get_dec
                refine tG_append hF ?_
                repeat array_get_dec
                refine tC_append hF (by rw [List.length_map]; exact Nat.le_trans (m := 7) (by omega) (by decide)) ?_
                have hL2 : (hput H₁ f (.lst (fs'.map (fun n : Nat => D.int n) ++ [.int t]))) l = some (intsD ls') := by rw [hput_ne hlf]; exact hL
                repeat array_get_dec
                refine tG_append hL2 ?_
                repeat array_get_dec
                refine tC_append hL2 (by rw [List.length_map]; exact Nat.le_trans (m := 7) (by omega) (by decide)) ?_
                repeat array_get_dec
                refine ⟨hS1, (hE.put hf).put hl0, fs' ++ [t], ls' ++ [t], ts', e2, ?_, ?_, hc, by simp [hbf], fun t ht => hts t (List.mem_cons_of_mem _ ht), fun y hy => ?_, ?_⟩
                · rw [hput_ne (Ne.symm hlf), hput_self]; simp [intsD]
                · rw [hput_self]; simp [intsD]
                · rcases hall y hy with h | h
                  · rcases List.mem_cons.mp h with rfl | h
                    · right; simp
                    · exact .inl h
                  · right; simp [h]
                · rw [List.length_append, List.length_append]; show ls'.length + 1 + 2 * (bs.length - (fs'.length + 1)) < n; omega
              · have hn : t ∈ fs' := by simpa using e
                repeat array_get_dec
                refine ⟨hS1, hE, fs', ls', ts', e2, hF, hL, c, hbf, fun t ht => hts t (List.mem_cons_of_mem _ ht), fun y hy => ?_, hlt⟩
                rcases hall y hy with h | h
                · rcases List.mem_cons.mp h with rfl | h
                  · exact .inr hn
                  · exact .inl h
                · exact .inr h
            · exact hS.both
        · rw [hput_ne (Ne.symm hlf)]; exact hF
        · rw [hput_self, List.map_append, List.map_cons, List.map_nil, List.dropLast_concat]; rfl
        · intro t ht; rw [hsu]; exact ht
        · intro t ht; rw [hsu] at ht; exact .inl ht
        · rw [List.length_append] at hn; have : [b].length = 1 := rfl; omega
      · refine tS.less (σ' := S0) ?_ hS
        have : ls = [] := by cases ls with | nil => rfl | cons => cases e
        subst this
        refine tS_forget (sub_of hE hF) ?_
        repeat array_get_dec
        exact h f fs hf c.nd c.done
    · exact less_of (by kernel_rfl)
    · exact ((Ext.refl H).put hf).put hl0
    · rw [hput_ne (Ne.symm hlf)]; exact hput_self
    · exact hput_self
    · exact ⟨by simp, by simp, by simpa using hb.pos, by simp, by simpa using Reach.zero, by simp⟩
  · with_unfolding_all decide
end

end

noncomputable section
noncomputable def nexts (bs : List Bk) (p : Pt) : List Pt := match bs[p.1]? with
  | some k => nextK k p
  | none => []
noncomputable def goesB (bs : List Bk) (p : Pt) (l : Loan) : Bool := match bs[p.1]? with
  | some k => goesK k p l
  | none => false
inductive Fol (bs : List Bk) (l : Loan) (held : List Pt) : Pt → Prop
  | start {p : Pt} : p ∈ nexts bs (l.b, l.i) → Fol bs l held p
  | step {p q : Pt} : Fol bs l held p → p ∈ held → goesB bs p l = true → q ∈ nexts bs p → Fol bs l held q
noncomputable def Valid (bs : List Bk) (p : Pt) : Prop := ∃ k, bs[p.1]? = some k ∧ p.2 ≤ k.ss.length
theorem Valid.next {bs : List Bk} (h : BsOk bs) {p q : Pt} (hp : Valid bs p) (hq : q ∈ nexts bs p) : Valid bs q := by
  obtain ⟨k, hk, hi⟩ := hp
  unfold nexts at hq; rw [hk] at hq
  have hq : q ∈ nextK k p := hq
  unfold nextK at hq
  split at hq
  · rename_i hlt
    rw [List.mem_singleton] at hq; subst hq
    exact ⟨k, hk, hlt⟩
  · obtain ⟨t, ht, rfl⟩ := List.mem_map.mp hq
    have := (h.ok k (List.mem_of_getElem? hk)).to t ht
    exact ⟨bs[t], List.getElem?_eq_getElem this, Nat.zero_le _⟩
theorem Valid.lt {bs : List Bk} (h : BsOk bs) {p : Pt} (hp : Valid bs p) : p.1 < 3 ∧ p.2 < 4 := by
  obtain ⟨k, hk, hi⟩ := hp
  have h1 := (List.getElem?_eq_some_iff.mp hk).1
  have h2 := h.len
  have h3 := (h.ok k (List.mem_of_getElem? hk)).len
  omega
noncomputable def grid : List Pt := (List.range 3).flatMap fun a => (List.range 4).map fun b => (a, b)
theorem Valid.grid {bs : List Bk} (h : BsOk bs) {p : Pt} (hp : Valid bs p) : p ∈ grid := by
  have := hp.lt h
  obtain ⟨a, b⟩ := p
  refine List.mem_flatMap.mpr ⟨a, List.mem_range.mpr this.1, List.mem_map.mpr ⟨b, List.mem_range.mpr this.2, rfl⟩⟩
theorem nexts_len (bs : List Bk) (p : Pt) : (nexts bs p).length ≤ 2 := by
  unfold nexts; split
  · rename_i k _
    unfold nextK; split
    · simp
    · rw [List.length_map]; cases k.e <;> exact Nat.le_of_ble_eq_true rfl
  · simp
structure FI (bs : List Bk) (l : Loan) (held : List Pt) (fs ls : List Pt) : Prop where
  nd : fs.Nodup
  vf : ∀ p ∈ fs, Valid bs p
  vl : ∀ p ∈ ls, Valid bs p
  ff : ∀ p ∈ fs, Fol bs l held p
  fl : ∀ p ∈ ls, Fol bs l held p
  start : ∀ p ∈ nexts bs (l.b, l.i), p ∈ fs ∨ p ∈ ls
  closed : ∀ p ∈ fs, p ∈ held → goesB bs p l = true → ∀ q ∈ nexts bs p, q ∈ fs ∨ q ∈ ls
theorem FI.size {bs : List Bk} {l : Loan} {held fs ls : List Pt} (c : FI bs l held fs ls) (h : BsOk bs) : fs.length ≤ 12 := by
  have := c.nd.length_le_of_subset (l₂ := grid) (fun p hp => (c.vf p hp).grid h)
  exact Nat.le_trans this (by decide)
theorem FI.done {bs : List Bk} {l : Loan} {held fs : List Pt} (c : FI bs l held fs []) (p : Pt) : p ∈ fs ↔ Fol bs l held p := by
  refine ⟨c.ff p, fun h => ?_⟩
  induction h with
  | start h => exact (c.start _ h).resolve_right (by simp)
  | step _ hh hg hq ih => exact (c.closed _ ih hh hg _ hq).resolve_right (by simp)
theorem FI.old {bs : List Bk} {l : Loan} {held fs ls : List Pt} {p : Pt} (c : FI bs l held fs (ls ++ [p])) (hp : p ∈ fs) : FI bs l held fs ls := by
  have key : ∀ q, q ∈ fs ∨ q ∈ ls ++ [p] → q ∈ fs ∨ q ∈ ls := fun q h => by
    rcases h with h | h
    · exact .inl h
    · rcases List.mem_append.mp h with h | h
      · exact .inr h
      · rw [List.mem_singleton] at h; subst h; exact .inl hp
  exact ⟨c.nd, c.vf, fun q hq => c.vl q (by simp [hq]), c.ff, fun q hq => c.fl q (by simp [hq]), fun q hq => key q (c.start q hq), fun q hq h1 h2 r hr => key r (c.closed q hq h1 h2 r hr)⟩
theorem FI.new {bs : List Bk} {l : Loan} {held fs ls : List Pt} {p : Pt} (hb : BsOk bs) (c : FI bs l held fs (ls ++ [p])) (hp : p ∉ fs) (ms : List Pt) (hm : ∀ q ∈ ms, q ∈ nexts bs p ∧ p ∈ held ∧ goesB bs p l = true) (hm' : p ∈ held → goesB bs p l = true → ∀ q ∈ nexts bs p, q ∈ ms) :
    FI bs l held (fs ++ [p]) (ls ++ ms) := by
  have vp := c.vl p (by simp)
  have fp := c.fl p (by simp)
  have key : ∀ q, q ∈ fs ∨ q ∈ ls ++ [p] → q ∈ fs ++ [p] ∨ q ∈ ls ++ ms := fun q h => by
    rcases h with h | h
    · left; simp [h]
    · rcases List.mem_append.mp h with h | h
      · right; simp [h]
      · rw [List.mem_singleton] at h; subst h; left; simp
  refine ⟨?_, ?_, ?_, ?_, ?_, fun q hq => key q (c.start q hq), ?_⟩
  · rw [List.nodup_append]; exact ⟨c.nd, by simp, fun x hx y hy => by rw [List.mem_singleton] at hy; subst hy; rintro rfl; exact hp hx⟩
  · intro q hq; rcases List.mem_append.mp hq with hq | hq
    · exact c.vf q hq
    · rw [List.mem_singleton] at hq; subst hq; exact vp
  · intro q hq; rcases List.mem_append.mp hq with hq | hq
    · exact c.vl q (by simp [hq])
    · exact vp.next hb (hm q hq).1
  · intro q hq; rcases List.mem_append.mp hq with hq | hq
    · exact c.ff q hq
    · rw [List.mem_singleton] at hq; subst hq; exact fp
  · intro q hq; rcases List.mem_append.mp hq with hq | hq
    · exact c.fl q (by simp [hq])
    · obtain ⟨h1, h2, h3⟩ := hm q hq; exact .step fp h2 h3 h1
  · intro q hq h1 h2 r hr
    rcases List.mem_append.mp hq with hq | hq
    · exact key r (c.closed q hq h1 h2 r hr)
    · rw [List.mem_singleton] at hq; subst hq
      right; exact List.mem_append_right _ (hm' h1 h2 r hr)
noncomputable def ptsD (l : List Pt) : D := .lst (l.map ptD)
noncomputable def ptPy (p : Pt) : PyData := .tuple [.int p.1, .int p.2]
theorem ptsD_py (l : List Pt) : (ptsD l).py = some (.list (l.map ptPy)) := by
  have : ∀ l : List Pt, pyAll (l.map ptD) = some (l.map ptPy) := fun l => by
    induction l with
    | nil => rfl
    | cons a l ih => simp only [List.map_cons, pyAll, ih]; rfl
  simp only [ptsD, D.py, this, Option.map_some]
theorem pts_lay (l : List Pt) : PyData.canLayAll0 (l.map ptPy) = true := by
  induction l with
  | nil => rfl
  | cons a l ih => show (_ && _) = true; rw [ih]; rfl
theorem any_pt (l : List Pt) (p : Pt) : ((l.map ptPy).any fun y => PyData.eqv y (ptPy p)) = decide (p ∈ l) := by
  induction l with
  | nil => rfl
  | cons a l ih =>
    rw [List.map_cons, List.any_cons, ih]
    show (PyData.eqv (.tuple [.int a.1, .int a.2]) (.tuple [.int p.1, .int p.2]) || _) = _
    rw [eqv_pt, Bool.eq_iff_iff]; simp only [Bool.or_eq_true, decide_eq_true_eq, List.mem_cons]
    constructor <;> rintro (h | h) <;> first | exact .inl h.symm | exact .inr h
theorem flat_pts (l : List Pt) : ∀ d ∈ l.map ptD, Flat d := fun d hd => by
  obtain ⟨a, _, rfl⟩ := List.mem_map.mp hd; exact Flat.pt _ _
inductive FoI1 (bs : List Bk) (l : Loan) (held : List Pt) (S0 : Addr → Sto) (H : Hp) (f : Addr) (n : Nat) (σ : Sto) (H' : Hp) : Prop
  | mk (g : Addr) (i1 : g ≠ f) (i2 : H g = none) (i3 : Less (S0 g) σ) (i4 : Ext H H') (fs ls : List Pt) (i5 : H' f = some (ptsD fs)) (i6 : H' g = some (ptsD ls)) (i7 : FI bs l held fs ls) (i8 : ls.length + 3 * (12 - fs.length) = n) (i9 : n ≤ 38)
section
variable {X : Cx} {A : Around} {H : Hp} {env : Env} {σ : Sto}
theorem c_nexts {bs : List Bk} {p : Pt} {Q : D → Hp → Prop} (hr : Room A 2) (hb : BsOk bs) (hv : Valid bs p) (h : ∀ a, H a = none → Q (.raw (.ref a)) (hput H a (ptsD (nexts bs p)))) : tC X A (.ref 247) [.lst (bs.map Bk.d), ptD p] H Q := by
  have hlt := hv.lt hb
  obtain ⟨k, hk, hi⟩ := hv
  have : nexts bs p = nextK k p := by unfold nexts; rw [hk]
  rw [this] at h
  exact c_next hr hk ⟨by omega, hb.ok k (List.mem_of_getElem? hk), by omega⟩ h
theorem c_goesB {bs : List Bk} {p : Pt} {l : Loan} {Q : D → Hp → Prop} (hr : Room A 2) (hb : BsOk bs) (hv : Valid bs p) (hl : l.Ok) (h : Q (.bool (goesB bs p l)) H) : tC X A (.ref 242) [.lst (bs.map Bk.d), ptD p, l.d] H Q := by
  have hlt := hv.lt hb
  obtain ⟨k, hk, hi⟩ := hv
  have : goesB bs p l = goesK k p l := by unfold goesB; rw [hk]
  rw [this] at h
  exact c_goes hr hk ⟨by omega, hb.ok k (List.mem_of_getElem? hk), hi⟩ hl h
theorem c_followed {bs : List Bk} {l : Loan} {held : List Pt} {Q : D → Hp → Prop} (hr : Room A 3) (hb : BsOk bs) (hl : l.Ok) (hv : Valid bs (l.b, l.i)) (h : ∀ f fs, H f = none → fs.Nodup → (∀ p, p ∈ fs ↔ Fol bs l held p) → Q (.raw (.ref f)) (hput H f (ptsD fs))) :
    tC X A (.ref 261) [.lst (bs.map Bk.d), l.d, ptsD held] H Q := by
  refine tC_def (X := X) (f := 261) (ds := [.lst (bs.map Bk.d), l.d, ptsD held]) (ho := by with_unfolding_all rfl) (by with_unfolding_all rfl) hr.lim ?_ ?_ ?_ ?_
  · intro s vs hk hl
    revert vs; refine len3 ?_; intro v1 v2 v3; exact BindsTo.of_eq (by with_unfolding_all rfl)
  · with_unfolding_all decide
  · intro L e0 A0
    refine tS_cons (tX_Swap (by sizeOf_list_dec) (by with_unfolding_all rfl) (by with_unfolding_all rfl) (by with_unfolding_all rfl) (by with_unfolding_all rfl) rfl rfl ?_ (by with_unfolding_all rfl))
    refine tE_ListM (by with_unfolding_all rfl) ?_
    repeat array_get_dec
    intro f hf
    repeat array_get_dec
    refine c_nexts (p := (l.b, l.i)) (by sizeOf_list_dec) hb hv ?_
    intro g hg
    have hgf : g ≠ f := fun q => by rw [q, hput_self] at hg; cases hg
    have hg0 : H g = none := by rw [hput_ne hgf] at hg; exact hg
    let S0 : Addr → Sto := fun g => stoL [("blocks", .lst (bs.map Bk.d)), ("loan", l.d), ("held", ptsD held), ("found", .raw (.ref f)), ("left", .raw (.ref g))]
    refine tS_cons (tX_While 1000 (LW_ind (FoI1 bs l held S0 H f) ?_ 1000 ((nexts bs (l.b, l.i)).length + 36) _ _ (by have := nexts_len bs (l.b, l.i); omega) ⟨g, hgf, hg0, ?_, ?_, [], nexts bs (l.b, l.i), ?_, ?_, ?_, rfl, by have := nexts_len bs (l.b, l.i); omega⟩))
    · rintro n σ H' ⟨g, hgf, hg0, hS, hE, fs, ls, hF, hL, c, hn, hn7⟩
      refine tT.less (σ' := S0 g) ?_ hS
      repeat array_get_dec
      refine t2_nilNe (.h hL) (flat_pts ls) (by sizeOf_list_dec) ?_
      repeat array_get_dec
      refine itB (fun e => ?_) (fun e => ?_)
      · rcases List.eq_nil_or_concat ls with rfl | ⟨ls, p, rfl⟩
        · cases e
        rw [List.concat_eq_append] at hL c hn
        have vp := c.vl p (by simp)
        have hsz := c.size hb
        rw [List.length_append] at hn
        have hn : ls.length + 1 + 3 * (12 - fs.length) = n := hn
        refine tS.less (σ' := S0 g) ?_ hS
        repeat array_get_dec
        refine tG_pop hL ?_
        repeat array_get_dec
        refine tC_pop (d := ptD p) hL (by rw [List.length_map, List.length_append]; exact Nat.le_trans (m := 38) (by show ls.length + 1 ≤ 38; omega) (by decide)) (by simp) ?_
        have hL1 : (hput H' g (.lst ((ls ++ [p]).map ptD).dropLast)) = hput H' g (ptsD ls) := by rw [List.map_append, List.map_cons, List.map_nil, List.dropLast_concat]; rfl
        rw [hL1]
        have hF1 : hput H' g (ptsD ls) f = some (ptsD fs) := by rw [hput_ne (Ne.symm hgf)]; exact hF
        have hE1 : Ext H (hput H' g (ptsD ls)) := hE.put hg0
        have hS1 : ∀ g, Less (S0 g) (sput (S0 g) "point" (ptD p)) := fun g => (Less.refl _).put (by with_unfolding_all rfl)
        repeat array_get_dec
        refine t2_notIn (p := ptPy p) (.h hF1) rfl (ptsD_py fs) rfl (Nat.le_of_ble_eq_true rfl) (pts_lay fs) (by sizeOf_list_dec) ?_
        rw [any_pt]
        repeat array_get_dec
        refine itB (fun e => ?_) (fun e => ?_)
        · have hp : p ∉ fs := by simpa using e
          repeat array_get_dec
          refine tG_append hF1 ?_
          repeat array_get_dec
          refine tC_append hF1 (by rw [List.length_map]; exact Nat.le_trans hsz (by decide)) ?_
          have e2 : D.lst (fs.map ptD ++ [ptD p]) = ptsD (fs ++ [p]) := by simp [ptsD]
          rw [e2]
          have hF2 : hput (hput H' g (ptsD ls)) f (ptsD (fs ++ [p])) f = some (ptsD (fs ++ [p])) := hput_self
          have hL2 : hput (hput H' g (ptsD ls)) f (ptsD (fs ++ [p])) g = some (ptsD ls) := by rw [hput_ne hgf]; exact hput_self
          have hE2 : Ext H (hput (hput H' g (ptsD ls)) f (ptsD (fs ++ [p]))) := hE1.put hf
          have hl1 : (fs ++ [p]).length = fs.length + 1 := by simp
          have c0 := fun h1 => c.new hb hp [] (fun q hq => by cases hq) h1
          have c1 := c.new hb hp (nexts bs p)
          have hsz1 : fs.length + 1 ≤ 12 := by
            by_cases q : p ∈ held ∧ goesB bs p l = true
            · have := (c1 (fun r hr => ⟨hr, q.1, q.2⟩) (fun _ _ r hr => hr)).size hb; omega
            · have := (c0 (fun h1 h2 => absurd ⟨h1, h2⟩ q)).size hb; omega
          generalize hput (hput H' g (ptsD ls)) f (ptsD (fs ++ [p])) = H2 at hF2 hL2 hE2 ⊢
          rw [List.append_nil] at c0
          repeat array_get_dec
          refine t2_in (p := ptPy p) .z rfl (ptsD_py held) rfl (Nat.le_of_ble_eq_true rfl) (pts_lay held) (by sizeOf_list_dec) ?_
          rw [any_pt]
          repeat array_get_dec
          refine itB (fun e => ?_) (fun e => ?_)
          · have hh : p ∈ held := by simpa using e
            repeat array_get_dec
            refine c_goesB (by sizeOf_list_dec) hb vp hl ?_
            repeat array_get_dec
            refine itB (fun e => ?_) (fun e => ?_)
            · have c2 := c1 (fun r hr => ⟨hr, hh, e⟩) (fun _ _ r hr => hr)
              repeat array_get_dec
              refine c_nexts (by sizeOf_list_dec) hb vp ?_
              intro a ha
              have hL3 : hput H2 a (ptsD (nexts bs p)) g = some (ptsD ls) := by rw [hput_ne (fun q => by rw [q, ha] at hL2; cases hL2)]; exact hL2
              have hn2 := nexts_len bs p
              refine t2_addLM (.h hL3) (.h hput_self) (by rw [List.length_map, List.length_map]; exact Nat.le_trans (m := 100) (by omega) (by decide)) ?_
              intro a2 ha2
              have haf : a ≠ f := fun q => by rw [q, hF2] at ha; cases ha
              have haf2 : a2 ≠ f := fun q => by rw [q, hput_ne (Ne.symm haf), hF2] at ha2; cases ha2
              have ha0 : H a = none := by cases q : H a with | none => rfl | some d => rw [hE2 a d q] at ha; cases ha
              have haa : a2 ≠ a := fun q => by rw [q, hput_self] at ha2; cases ha2
              have ha20 : H a2 = none := by
                rw [hput_ne haa] at ha2
                cases q : H a2 with | none => rfl | some d => rw [hE2 a2 d q] at ha2; cases ha2
              repeat array_get_dec
              refine ⟨(ls ++ nexts bs p).length + 3 * (12 - (fs ++ [p]).length), by rw [List.length_append, hl1]; omega, a2, haf2, ha20, ?_, (hE2.put ha0).put ha20, fs ++ [p], ls ++ nexts bs p, ?_, ?_, c2, rfl, by rw [List.length_append, hl1]; omega⟩
              · exact less_of (by kernel_rfl)
              · rw [hput_ne (Ne.symm haf2), hput_ne (Ne.symm haf)]; exact hF2
              · rw [hput_self, ptsD, List.map_append]
            · repeat array_get_dec
              exact ⟨ls.length + 3 * (12 - (fs ++ [p]).length), by rw [hl1]; omega, g, hgf, hg0, hS1 g, hE2, fs ++ [p], ls, hF2, hL2, c0 (fun _ h2 => by rw [e] at h2; cases h2), rfl, by rw [hl1]; omega⟩
          · have hh : p ∉ held := by simpa using e
            repeat array_get_dec
            exact ⟨ls.length + 3 * (12 - (fs ++ [p]).length), by rw [hl1]; omega, g, hgf, hg0, hS1 g, hE2, fs ++ [p], ls, hF2, hL2, c0 (fun h1 _ => absurd h1 hh), rfl, by rw [hl1]; omega⟩
        · have hp : p ∈ fs := by simpa using e
          repeat array_get_dec
          exact ⟨ls.length + 3 * (12 - fs.length), by omega, g, hgf, hg0, hS1 g, hE1, fs, ls, hF1, hput_self, c.old hp, rfl, by omega⟩
      · refine tS.less (σ' := S0 g) ?_ hS
        have : ls = [] := by cases ls with | nil => rfl | cons => cases e
        subst this
        refine tS_forget (sub_of hE hF) ?_
        repeat array_get_dec
        exact h f fs hf c.nd c.done
    · exact less_of (by kernel_rfl)
    · exact ((Ext.refl H).put hf).put hg0
    · rw [hput_ne (Ne.symm hgf)]; exact hput_self
    · exact hput_self
    · exact ⟨by simp, by simp, fun p hp => hv.next hb hp, by simp, fun p hp => .start hp, fun p hp => .inr hp, by simp⟩
  · with_unfolding_all decide
end

end

noncomputable section
section
variable {X : Cx} {A : Around} {H : Hp} {env : Env} {σ : Sto}
theorem cls100 : ClsOk X 100 := ⟨by with_unfolding_all rfl, by with_unfolding_all rfl, by with_unfolding_all rfl, by with_unfolding_all rfl⟩
theorem cls165 : ClsOk X 165 := ⟨by with_unfolding_all rfl, by with_unfolding_all rfl, by with_unfolding_all rfl, by with_unfolding_all rfl⟩
noncomputable def scN : List Str := ["body", "loans", "values", "numbers", "after", "begins", "kept"]
noncomputable def boN : List Str := ["name", "arg_count", "locals", "blocks", "spots"]
noncomputable def scDs (b l v n bg kp : D) : List D := [b, l, v, n, .raw (.ref 197), bg, kp]
noncomputable def boDs (B : D) (sp : Addr) : List D := [.str "f", .int 0, .lst [], B, .raw (.ref sp)]
theorem c_mkScopes {b l v n : D} {Q : D → Hp → Prop} (hr : Room A 2)
    (h : ∀ dx bg, H dx = none → H bg = none → bg ≠ dx → Q (.inst 100 dx) (hput (hput H dx (.ns scN (scDs b l v n (.raw (.ref bg)) .none))) bg (.idict [0] [.sset []]))) : tC X A (.ref 100) [b, l, v, n, .raw (.ref 197)] H Q := by
  refine tC_make (fI := 66) (by with_unfolding_all rfl) (by with_unfolding_all rfl) (by with_unfolding_all rfl) fun dx A' h1 h2 h3 hdx => ?_
  have hr' : Room A' 1 := hr.make (by decide) h1 h2 h3
  refine kC_def (X := X) (f := 66) (ds := [.inst 100 dx, b, l, v, n, .raw (.ref 197)]) (ho := by with_unfolding_all rfl) (by with_unfolding_all rfl) hr'.lim ?_ ?_ ?_ ?_
  · intro s vs hk hl
    revert vs; refine len6 ?_; intro v1 v2 v3 v4 v5 v6; exact BindsTo.of_eq (by with_unfolding_all rfl)
  · with_unfolding_all decide
  · intro L e0 A0
    repeat array_get_dec
    refine tU_attr rfl cls100 (by with_unfolding_all rfl) hput_self (Nat.le_of_ble_eq_true rfl) ?_
    rw [hput_hput]
    repeat array_get_dec
    refine tU_attr rfl cls100 (by with_unfolding_all rfl) hput_self (Nat.le_of_ble_eq_true rfl) ?_
    rw [hput_hput]
    repeat array_get_dec
    refine tU_attr rfl cls100 (by with_unfolding_all rfl) hput_self (Nat.le_of_ble_eq_true rfl) ?_
    rw [hput_hput]
    repeat array_get_dec
    refine tU_attr rfl cls100 (by with_unfolding_all rfl) hput_self (Nat.le_of_ble_eq_true rfl) ?_
    rw [hput_hput]
    repeat array_get_dec
    refine tU_attr rfl cls100 (by with_unfolding_all rfl) hput_self (Nat.le_of_ble_eq_true rfl) ?_
    rw [hput_hput]
    repeat array_get_dec
    refine tE_Dict1I ?_
    repeat array_get_dec
    refine tC_fz0 ?_
    refine ⟨0, rfl, fun bg hbg => ?_⟩
    have hne : bg ≠ dx := fun q => by rw [q, hput_self] at hbg; cases hbg
    have hb0 : H bg = none := by rw [hput_ne hne] at hbg; exact hbg
    have sw : ∀ (d e : D), hput (hput (hput H dx d) bg (.idict [0] [.sset []])) dx e = hput (hput H dx e) bg (.idict [0] [.sset []]) := fun d e => by
      funext a; unfold hput
      by_cases q : a = dx
      · subst q; rw [if_pos rfl, if_neg (Ne.symm hne), if_pos rfl]
      · by_cases q' : a = bg
        · subst q'; rw [if_neg q, if_pos rfl, if_pos rfl]
        · simp [q, q']
    repeat array_get_dec
    refine tU_attr rfl cls100 (by with_unfolding_all rfl) (by rw [hput_ne (Ne.symm hne)]; exact hput_self) (Nat.le_of_ble_eq_true rfl) ?_
    rw [sw]
    repeat array_get_dec
    refine tU_attr rfl cls100 (by with_unfolding_all rfl) (by rw [hput_ne (Ne.symm hne)]; exact hput_self) (Nat.le_of_ble_eq_true rfl) ?_
    rw [sw]
    repeat array_get_dec
    exact ⟨rfl, h dx bg hdx hb0 hne⟩
  · with_unfolding_all decide
theorem c_mkBody {B : List D} {Q : D → Hp → Prop} (hr : Room A 2)
    (h : ∀ dx sp, H dx = none → Q (.inst 165 dx) (hput H dx (.ns boN (boDs (.lst B) sp)))) : tC X A (.ref 165) [.str "f", .int 0, .lst [], .lst B] H Q := by
  refine tC_make (fI := 119) (by with_unfolding_all rfl) (by with_unfolding_all rfl) (by with_unfolding_all rfl) fun dx A' h1 h2 h3 hdx => ?_
  have hr' : Room A' 1 := hr.make (by decide) h1 h2 h3
  refine kC_defN (X := X) (f := 119) (ds := [.inst 165 dx, .str "f", .int 0, .lst [], .lst B]) (ho := by with_unfolding_all rfl) (by with_unfolding_all rfl) hr'.lim ?_ ?_ ?_ ?_
  · intro s vs hk hl
    revert vs; refine len5 ?_; intro v1 v2 v3 v4 v5; exact BindsTo.of_defaults (T := 112) rfl (hk _ _ (X.kin _ _ (by with_unfolding_all rfl))) rfl (by with_unfolding_all rfl) (by with_unfolding_all rfl)
  · with_unfolding_all decide
  · intro L e0 A0
    repeat array_get_dec
    refine tU_attr rfl cls165 (by with_unfolding_all rfl) hput_self (Nat.le_of_ble_eq_true rfl) ?_
    rw [hput_hput]
    repeat array_get_dec
    refine tU_attr rfl cls165 (by with_unfolding_all rfl) hput_self (Nat.le_of_ble_eq_true rfl) ?_
    rw [hput_hput]
    repeat array_get_dec
    refine tC_list (Nat.le_of_ble_eq_true rfl) ?_
    repeat array_get_dec
    refine tU_attr rfl cls165 (by with_unfolding_all rfl) hput_self (Nat.le_of_ble_eq_true rfl) ?_
    rw [hput_hput]
    repeat array_get_dec
    refine t2_is_none_lst ?_
    repeat array_get_dec
    refine tU_attr rfl cls165 (by with_unfolding_all rfl) hput_self (Nat.le_of_ble_eq_true rfl) ?_
    rw [hput_hput]
    repeat array_get_dec
    refine t2_is_none ?_
    repeat array_get_dec
    refine tE_Dict0I fun sp hsp => ?_
    have hne : sp ≠ dx := fun q => by rw [q, hput_self] at hsp; cases hsp
    have hs0 : H sp = none := by rw [hput_ne hne] at hsp; exact hsp
    repeat array_get_dec
    refine tU_attr rfl cls165 (by with_unfolding_all rfl) (by rw [hput_ne (Ne.symm hne)]; exact hput_self) (Nat.le_of_ble_eq_true rfl) ?_
    refine tS_forget (H₁ := hput H dx (.ns boN (boDs (.lst B) sp))) (fun a d e => ?_) ?_
    · by_cases q : a = dx
      · subst q; rw [hput_self] at e ⊢; exact e
      · rw [hput_ne q] at e ⊢
        have : a ≠ sp := fun q' => by rw [q', hs0] at e; cases e
        rw [hput_ne this, hput_ne q]; exact e
    · repeat array_get_dec
      exact ⟨rfl, h dx sp hdx⟩
  · with_unfolding_all decide
end

end

noncomputable section
structure Sc where
  bs : List Bk
  ls : List Loan
  pts : List Pt
  num : Pt → Int
  held : Int → Option (List Pt)
  vks : List Int
  vds : List D
  nks : List (List Int)
  nds : List D
noncomputable def keyP (p : Pt) : List Int := [p.1, p.2]
theorem keyP_inj {p q : Pt} (h : keyP p = keyP q) : p = q := by
  obtain ⟨a, b⟩ := p; obtain ⟨c, d⟩ := q
  simp only [keyP, List.cons.injEq, and_true] at h
  obtain ⟨h1, h2⟩ := h
  have h1 : (a : Int) = c := h1
  have h2 : (b : Int) = d := h2
  simp only [Prod.mk.injEq]; omega
structure Sc.Ok (w : Sc) : Prop where
  bs : BsOk w.bs
  ls : ∀ l ∈ w.ls, l.Ok
  len : w.ls.length ≤ 3
  nth : ∀ (i : Nat) (l : Loan), w.ls[i]? = some l → l.n = i
  pts : ∀ p, p ∈ w.pts ↔ Valid w.bs p
  inj : ∀ p ∈ w.pts, ∀ q ∈ w.pts, w.num p = w.num q → p = q
  nget : ∀ p ∈ w.pts, getK (keyP p) w.nks w.nds = some (.int (w.num p))
  vget : ∀ r, getK r w.vks w.vds = (w.held r).map fun l => D.fset (l.map w.num)
  hsub : ∀ r l, w.held r = some l → ∀ p ∈ l, p ∈ w.pts
  lv : ∀ l ∈ w.ls, ∃ k, w.bs[l.b]? = some k ∧ l.i < k.ss.length
noncomputable def Sc.heldL (w : Sc) (r : Int) : List Pt := (w.held r).getD []
noncomputable def Sc.ds (w : Sc) (sp : Addr) (bg kp : D) : List D := scDs (.obj 165 boN (boDs (.lst (w.bs.map Bk.d)) sp)) (.lst (w.ls.map Loan.d)) (.idict w.vks w.vds) (.tdict w.nks w.nds) bg kp
noncomputable def Sc.on (w : Sc) (p : Pt) (n : Nat) : Bool := match w.ls[n]? with
  | some l => decide (p ∈ w.heldL l.r)
  | none => false
noncomputable def Sc.letOn (w : Sc) (so : List Nat) (p : Pt) : List Nat := canon (so.filter (w.on p))
noncomputable def Sc.behind (w : Sc) (so : List Nat) (p : Pt) : List Nat := match w.bs[p.1]? with
  | none => []
  | some k => match k.ss[p.2]? with
    | none => canon (so.filter fun n => !(killedE k.e w.ls).contains n)
    | some s => canon (canon (so.filter fun n => !(killed s w.ls).contains n) ++ canon ((w.ls.filter fun l => decide ((l.b, l.i) = p)).map Loan.n))
section
variable {X : Cx} {A : Around} {H : Hp} {env : Env} {σ : Sto}
theorem Sc.Ok.z (w : Sc) (h : w.Ok) : w.ls.length ≤ 1000 := by have := h.len; omega
theorem c_letOn {w : Sc} {dx sp : Addr} {bg kp : D} {so : List Nat} {p : Pt} {Q : D → Hp → Prop} (hr : Room A 1) (hw : w.Ok) (hd : H dx = some (.ns scN (w.ds sp bg kp))) (hz : so ∈ subs3) (hs : ∀ n ∈ so, n < w.ls.length) (hp : p ∈ w.pts)
    (h : Q (.sset (w.letOn so p)) H) : tC X A (.ref 71) [.inst 100 dx, .sset so, ptD p] H Q := by
  refine tC_defC (X := X) (f := 71) (ds := [.inst 100 dx, .sset so, ptD p]) (ho := by with_unfolding_all rfl) (by with_unfolding_all rfl) hr.lim ?_ (by with_unfolding_all rfl) (by with_unfolding_all rfl) ?_
  · intro vs hl
    revert vs; refine len3 ?_; intro v1 v2 v3; with_unfolding_all rfl
  · intro L e0 A0
    repeat array_get_dec
    refine t1_own rfl cls100 (by with_unfolding_all rfl) hd (by with_unfolding_all rfl) rfl ?_
    repeat array_get_dec
    refine t2_itemK (k := keyP p) (by sizeOf_list_dec) .z rfl (hw.nget p hp) ?_
    repeat array_get_dec
    refine tIt_sset (by sizeOf_list_dec) fun ns hns => ?_
    have hns' : ∀ n ∈ ns, n < w.ls.length := fun n hn => hs n (hns.mem_iff.mp hn)
    have hl3 := hw.len
    refine ⟨?_, fun C => LC_pure (fun n : Nat => D.int n) (w.on p) (fun n : Nat => D.int n) rfl ?_ ?_ ?_⟩
    · rw [List.length_map, hns.length_eq]; have := subs3_len hz; exact Nat.le_trans (m := 3) (by omega) (by decide)
    · intro n hn
      have hlt := hns' n hn
      repeat array_get_dec
      refine t1_own rfl cls100 (by with_unfolding_all rfl) hd (by with_unfolding_all rfl) rfl ?_
      refine tG_get (.inl ⟨_, _, .z⟩) ?_
      repeat array_get_dec
      refine t1_own rfl cls100 (by with_unfolding_all rfl) hd (by with_unfolding_all rfl) rfl ?_
      repeat array_get_dec
      have hln : (w.ls.map Loan.d)[((n : Nat) : Int).toNat]? = some (w.ls[n].d) := by rw [Int.toNat_natCast, List.getElem?_map, List.getElem?_eq_getElem hlt]; rfl
      refine t2_itemL (k := n) .z rfl (by omega) (by omega) hln ?_
      repeat array_get_dec
      refine tC_fz0 ?_
      repeat array_get_dec
      refine tC_getI .z rfl ?_
      rw [hw.vget]
      have hon : w.on p n = decide (p ∈ w.heldL w.ls[n].r) := by unfold Sc.on; rw [List.getElem?_eq_getElem hlt]
      rw [hon]
      unfold Sc.heldL
      cases hq : w.held w.ls[n].r with
      | none =>
        refine t2_inS0 rfl ?_
        repeat array_get_dec
        exact ⟨rfl, by simp⟩
      | some l =>
        refine t2_inF rfl ?_
        repeat array_get_dec
        refine ⟨rfl, ?_⟩
        have : (l.map w.num).contains (w.num p) = decide (p ∈ l) := by
          rw [Bool.eq_iff_iff, List.contains_iff_mem, List.mem_map, decide_eq_true_eq]
          constructor
          · rintro ⟨q, hq', e⟩; rw [← hw.inj q (hw.hsub _ _ hq q hq') p hp e]; exact hq'
          · intro h; exact ⟨p, h, rfl⟩
        rw [this]; rfl
    · intro n hn e
      repeat array_get_dec
      exact ⟨rfl, rfl⟩
    · intro _
      refine tL_nil (tC_fzS (by sizeOf_list_dec) (fun n hn => by have := hns' n (List.mem_filter.mp hn).1; omega) ?_)
      repeat array_get_dec
      have : canon (ns.filter (w.on p)) = w.letOn so p := canon_congr fun n _ => by
        rw [List.mem_filter, List.mem_filter, hns.mem_iff]
      rw [this]; exact h
theorem c_behind {w : Sc} {dx sp : Addr} {bg kp : D} {so : List Nat} {p : Pt} {Q : D → Hp → Prop} (hr : Room A 3) (hw : w.Ok) (hd : H dx = some (.ns scN (w.ds sp bg kp))) (hp : Valid w.bs p)
    (h : Q (.sset (w.behind so p)) H) : tC X A (.ref 76) [.inst 100 dx, .sset so, ptD p] H Q := by
  refine tC_defC (X := X) (f := 76) (ds := [.inst 100 dx, .sset so, ptD p]) (ho := by with_unfolding_all rfl) (by with_unfolding_all rfl) hr.lim ?_ (by with_unfolding_all rfl) (by with_unfolding_all rfl) ?_
  · intro vs hl
    revert vs; refine len3 ?_; intro v1 v2 v3; with_unfolding_all rfl
  · intro L e0 A0
    have hlt := hp.lt hw.bs
    obtain ⟨k, hk, hi⟩ := hp
    obtain ⟨b, i⟩ := p
    have hlt : b < 3 ∧ i < 4 := hlt
    have hk : w.bs[b]? = some k := hk
    have hi : i ≤ k.ss.length := hi
    have hb : (w.bs.map Bk.d)[((b : Nat) : Int).toNat]? = some k.d := by rw [Int.toNat_natCast, List.getElem?_map, hk]; rfl
    have hko := hw.bs.ok k (List.mem_of_getElem? hk)
    have hzz := hko.len
    have hz := hw.z
    have hls := hw.ls
    have l1 : (k.ss.map St.d).length < 2 ^ 62 := by rw [List.length_map]; omega
    repeat array_get_dec
    refine tA_tup (by sizeOf_list_dec) rfl rfl ?_
    repeat array_get_dec
    refine t1_own rfl cls100 (by with_unfolding_all rfl) hd (by with_unfolding_all rfl) rfl ?_
    refine t1_ownZ rfl cls165 (by with_unfolding_all rfl) (by with_unfolding_all rfl) rfl ?_
    repeat array_get_dec
    refine t2_itemL (k := b) .z rfl (by omega) (by omega) hb ?_
    repeat array_get_dec
    refine t2_itemL (k := 0) .z rfl (by decide) (by decide) rfl ?_
    repeat array_get_dec
    have hlen : ((i : Int) = (k.ss.map St.d).length) ↔ i = k.ss.length := by rw [List.length_map]; omega
    refine itB (fun e => ?_) (fun e => ?_)
    · have e' : i = k.ss.length := hlen.mp (of_decide_eq_true (show decide ((i : Int) = (k.ss.map St.d).length) = true from e))
      have hg : w.behind so (b, i) = canon (so.filter fun n => !(killedE k.e w.ls).contains n) := by
        unfold Sc.behind; rw [show w.bs[(b, i).1]? = some k from hk]
        show (match k.ss[i]? with | none => _ | some s => _) = _
        rw [e', List.getElem?_eq_none (Nat.le_refl _)]
      rw [hg] at h
      have heo := hko.e
      repeat array_get_dec
      refine t1_own rfl cls100 (by with_unfolding_all rfl) hd (by with_unfolding_all rfl) rfl ?_
      repeat array_get_dec
      refine t1_own rfl cls100 (by with_unfolding_all rfl) hd (by with_unfolding_all rfl) rfl ?_
      refine t1_ownZ rfl cls165 (by with_unfolding_all rfl) (by with_unfolding_all rfl) rfl ?_
      repeat array_get_dec
      refine t2_itemL (k := b) .z rfl (by omega) (by omega) hb ?_
      repeat array_get_dec
      refine t2_itemL (k := 1) .z rfl (by decide) (by decide) rfl ?_
      repeat array_get_dec
      refine t2_subS ?_
      repeat array_get_dec
      exact h
    · have e' : i ≠ k.ss.length := fun q => absurd (hlen.mpr q) (of_decide_eq_false (show decide ((i : Int) = (k.ss.map St.d).length) = false from e))
      have hi : i < k.ss.length := by omega
      have hst : (k.ss.map St.d)[((i : Nat) : Int).toNat]? = some (k.ss[i].d) := by rw [Int.toNat_natCast, List.getElem?_map, List.getElem?_eq_getElem hi]; rfl
      have hso := hko.ss _ (List.getElem_mem hi)
      have hg : w.behind so (b, i) = canon (canon (so.filter fun n => !(killed k.ss[i] w.ls).contains n) ++ canon ((w.ls.filter fun l => decide ((l.b, l.i) = (b, i))).map Loan.n)) := by
        unfold Sc.behind; rw [show w.bs[(b, i).1]? = some k from hk]
        show (match k.ss[i]? with | none => _ | some s => _) = _
        rw [List.getElem?_eq_getElem hi]
      rw [hg] at h
      generalize k.ss[i] = st at hst hso h
      repeat array_get_dec
      refine t1_own rfl cls100 (by with_unfolding_all rfl) hd (by with_unfolding_all rfl) rfl ?_
      repeat array_get_dec
      refine t2_itemL (k := i) .z rfl (by omega) (by omega) hst ?_
      repeat array_get_dec
      refine t2_subS ?_
      repeat array_get_dec
      refine t1_own rfl cls100 (by with_unfolding_all rfl) hd (by with_unfolding_all rfl) rfl ?_
      repeat array_get_dec
      refine ⟨lz hz, fun C => LC_pure Loan.d (fun l => decide ((l.b, l.i) = (b, i))) (fun l => .int l.n) rfl ?_ ?_ ?_⟩
      · intro l hl
        repeat array_get_dec
        exact ⟨rfl, eqv_pt (l.b, l.i) (b, i)⟩
      · intro l hl e
        repeat array_get_dec
        exact ⟨rfl, rfl⟩
      · intro _
        refine tL_nil (tC_fzMap (by sizeOf_list_dec) (filt_ok hls) ?_)
        refine t2_orS ?_
        repeat array_get_dec
        exact h
end

end

noncomputable section
theorem getK_map {α κ : Type} [DecidableEq α] [DecidableEq κ] {e : α → κ} (he : ∀ a b, e a = e b → a = b) (f : α → D) (a : α) : ∀ l : List α, getK (e a) (l.map e) (l.map f) = if a ∈ l then some (f a) else none
  | [] => by simp [getK]
  | b :: l => by
    simp only [List.map_cons, getK]
    by_cases q : b = a
    · subst q; simp
    · rw [if_neg (fun h => q (he _ _ h)), getK_map he f a l]
      simp only [List.mem_cons, Ne.symm q, false_or]
theorem putK_map_new {α κ : Type} [DecidableEq α] [DecidableEq κ] {e : α → κ} (he : ∀ a b, e a = e b → a = b) (f : α → D) (a : α) (d : D) : ∀ l : List α, a ∉ l → putK (e a) d (l.map e) (l.map f) = ((l ++ [a]).map e, l.map f ++ [d])
  | [], _ => by simp [putK]
  | b :: l, h => by
    simp only [List.mem_cons, not_or] at h
    simp only [List.map_cons, putK]
    rw [if_neg (fun q => h.1 (he _ _ q).symm), putK_map_new he f a d l h.2]
    rfl
theorem putK_map_old {α κ : Type} [DecidableEq α] [DecidableEq κ] {e : α → κ} (he : ∀ a b, e a = e b → a = b) (f : α → D) (a : α) (d : D) : ∀ l : List α, l.Nodup → a ∈ l → putK (e a) d (l.map e) (l.map f) = (l.map e, l.map fun x => if x = a then d else f x)
  | [], _, h => by cases h
  | b :: l, hn, h => by
    simp only [List.map_cons, putK]
    obtain ⟨h1, h2⟩ := List.nodup_cons.mp hn
    by_cases q : b = a
    · subst q
      rw [if_pos rfl]
      have : (l.map fun x => if x = b then d else f x) = l.map f := List.map_congr_left fun x hx => if_neg (by rintro rfl; exact h1 hx)
      rw [this, if_pos rfl]
    · rw [if_neg (fun h => q (he _ _ h)), putK_map_old he f a d l h2 ((List.mem_cons.mp h).resolve_left (Ne.symm q)), if_neg q]
theorem intCast_inj : ∀ a b : Nat, (a : Int) = b → a = b := fun a b h => by omega
noncomputable def Sc.flow (w : Sc) (s0 : List Nat) (b : Nat) : Nat → List Nat
  | 0 => s0
  | i + 1 => w.behind (w.letOn (w.flow s0 b i) (b, i)) (b, i)
noncomputable def Sc.small (w : Sc) (so : List Nat) : Prop := so ∈ subs3 ∧ ∀ n ∈ so, n < w.ls.length
theorem Sc.Ok.letOn {w : Sc} {so : List Nat} {p : Pt} (h : w.small so) : w.small (w.letOn so p) :=
  ⟨canon_sub _, fun n hn => h.2 n (List.mem_filter.mp (mem_canon.mp hn).1).1⟩
theorem Sc.Ok.nlt {w : Sc} (hw : w.Ok) {l : Loan} (hl : l ∈ w.ls) : l.n < w.ls.length := by
  obtain ⟨i, hi⟩ := List.getElem?_of_mem hl
  rw [hw.nth i l hi]; exact (List.getElem?_eq_some_iff.mp hi).1
theorem Sc.Ok.behind {w : Sc} (hw : w.Ok) {so : List Nat} {p : Pt} (h : w.small so) : w.small (w.behind so p) := by
  unfold Sc.behind
  split
  · exact ⟨by decide, fun n hn => by cases hn⟩
  · split
    · exact ⟨canon_sub _, fun n hn => h.2 n (List.mem_filter.mp (mem_canon.mp hn).1).1⟩
    · refine ⟨canon_sub _, fun n hn => ?_⟩
      rcases List.mem_append.mp (mem_canon.mp hn).1 with q | q
      · exact h.2 n (List.mem_filter.mp (mem_canon.mp q).1).1
      · obtain ⟨l, hl, rfl⟩ := List.mem_map.mp (mem_canon.mp q).1
        exact hw.nlt (List.mem_filter.mp hl).1
theorem Sc.Ok.flow {w : Sc} (hw : w.Ok) {s0 : List Nat} {b : Nat} (h : w.small s0) : ∀ i, w.small (w.flow s0 b i)
  | 0 => h
  | i + 1 => hw.behind (Sc.Ok.letOn (hw.flow h i))
noncomputable def Sc.keptAt (w : Sc) (g : Nat → List Nat) (p : Pt) : List Nat := w.letOn (w.flow (g p.1) p.1 p.2) p
noncomputable def Sc.keptD (w : Sc) (g : Nat → List Nat) (L : List Pt) : D := .tdict (L.map keyP) (L.map fun p => .sset (w.keptAt g p))
noncomputable def begD (ks : List Nat) (g : Nat → List Nat) : D := .idict (ks.map fun n : Nat => (n : Int)) (ks.map fun b => .sset (g b))
noncomputable def blen (bs : List Bk) (b : Nat) : Nat := match bs[b]? with
  | some k => k.ss.length
  | none => 0
noncomputable def Sc.ptsOf (w : Sc) (ks : List Nat) : List Pt := ks.flatMap fun b => (List.range (blen w.bs b + 1)).map fun i => (b, i)
theorem blen_lt {bs : List Bk} (h : BsOk bs) (b : Nat) : blen bs b < 4 := by
  unfold blen; split
  · rename_i k hk; exact (h.ok k (List.mem_of_getElem? hk)).len
  · decide
theorem Sc.ptsOf_len (w : Sc) (h : BsOk w.bs) : ∀ ks, (w.ptsOf ks).length ≤ 4 * ks.length
  | [] => by simp [Sc.ptsOf]
  | b :: ks => by
    have := Sc.ptsOf_len w h ks
    have h2 := blen_lt h b
    have e : w.ptsOf (b :: ks) = ((List.range (blen w.bs b + 1)).map fun i => (b, i)) ++ w.ptsOf ks := by simp [Sc.ptsOf]
    rw [e, List.length_append, List.length_map, List.length_range, List.length_cons]; omega
theorem Less.trans {a b c : Sto} (x : Less a b) (y : Less b c) : Less a c := fun k => (x k).elim .inl fun e => (y k).elim (fun e' => .inl (e.trans e')) fun e' => .inr (e.trans e')
structure KI (w : Sc) (sp dx kp : Addr) (bgD : D) (g : Nat → List Nat) (H H' : Hp) (L : List Pt) : Prop where
  x : H' dx = some (.ns scN (w.ds sp bgD (.raw (.ref kp))))
  k : H' kp = some (w.keptD g L)
  ext : ∀ b e, b ≠ dx → H b = some e → H' b = some e
theorem KI.put {w : Sc} {sp dx kp : Addr} {bgD : D} {g : Nat → List Nat} {H H' : Hp} {L : List Pt} (c : KI w sp dx kp bgD g H H' L) (hkx : kp ≠ dx) (hk0 : H kp = none) (p : Pt) : KI w sp dx kp bgD g H (hput H' kp (w.keptD g (L ++ [p]))) (L ++ [p]) :=
  ⟨by rw [hput_ne (Ne.symm hkx)]; exact c.x, hput_self, fun b e hb h => by rw [hput_ne (by rintro rfl; rw [hk0] at h; cases h)]; exact c.ext b e hb h⟩
inductive KeI1 (w : Sc) (dx sp bg kp : Addr) (ks : List Nat) (g : Nat → List Nat) (S0 : Sto) (H : Hp) (ds : List D) (σ : Sto) (H' : Hp) : Prop
  | mk (i1 : Less S0 σ) (done todo : List Nat) (i2 : ks = done ++ todo) (i3 : ds = (todo.map fun n : Nat => (n : Int)).map .int) (i4 : KI w sp dx kp (begD ks g) g (hdel H bg) H' (w.ptsOf done))
inductive KeI2 (w : Sc) (dx sp bg kp : Addr) (ks : List Nat) (g : Nat → List Nat) (S1 : List Nat → Sto) (H : Hp) (b : Nat) (done : List Nat) (ds : List D) (σ : Sto) (H' : Hp) : Prop
  | mk (i m : Nat) (i1 : ds = (List.range' i m).map (fun i : Nat => D.int i)) (i2 : i + m = blen w.bs b + 1) (i3 : Less (S1 (w.flow (g b) b i)) σ) (i4 : KI w sp dx kp (begD ks g) g (hdel H bg) H' (w.ptsOf done ++ (List.range i).map fun i => (b, i)))
section
variable {X : Cx} {A : Around} {H : Hp} {env : Env} {σ : Sto}
theorem c_at {w : Sc} {dx sp kp : Addr} {bg : D} {ks : List (List Int)} {ds : List D} {p : Pt} {Q : D → Hp → Prop} (hr : Room A 1) (hd : H dx = some (.ns scN (w.ds sp bg (.raw (.ref kp))))) (hk : H kp = some (.tdict ks ds))
    (h : Q ((getK (keyP p) ks ds).getD (.sset [])) H) : tC X A (.ref 97) [.inst 100 dx, ptD p] H Q := by
  refine tC_def (X := X) (f := 97) (ds := [.inst 100 dx, ptD p]) (ho := by with_unfolding_all rfl) (by with_unfolding_all rfl) hr.lim ?_ ?_ ?_ ?_
  · intro s vs hk hl
    revert vs; refine len2 ?_; intro v1 v2; exact BindsTo.of_eq (by with_unfolding_all rfl)
  · with_unfolding_all decide
  · intro L e0 A0
    repeat array_get_dec
    refine t1_own rfl cls100 (by with_unfolding_all rfl) hd (by with_unfolding_all rfl) rfl ?_
    repeat array_get_dec
    refine t2_is_none_raw ?_
    repeat array_get_dec
    refine t1_own rfl cls100 (by with_unfolding_all rfl) hd (by with_unfolding_all rfl) rfl ?_
    refine tG_get (.inr ⟨_, _, .h hk⟩) ?_
    repeat array_get_dec
    refine tC_fz0 ?_
    repeat array_get_dec
    refine tC_getK (k := keyP p) (by sizeOf_list_dec) (.h hk) rfl ?_
    repeat array_get_dec
    exact h
  · with_unfolding_all decide
theorem c_keep {w : Sc} {dx sp bg : Addr} {ks : List Nat} {g : Nat → List Nat} {Q : D → Hp → Prop} (hr : Room A 4) (hw : w.Ok) (hd : H dx = some (.ns scN (w.ds sp (.raw (.ref bg)) .none))) (hb : H bg = some (begD ks g)) (hne : bg ≠ dx)
    (hnd : ks.Nodup) (hlt : ∀ b ∈ ks, b < w.bs.length) (hg : ∀ b ∈ ks, w.small (g b))
    (h : ∀ kp H', kp ≠ dx → hdel H bg kp = none → KI w sp dx kp (begD ks g) g (hdel H bg) H' (w.ptsOf ks) → Q .none H') : tC X A (.ref 90) [.inst 100 dx] H Q := by
  refine tC_def (X := X) (f := 90) (ds := [.inst 100 dx]) (ho := by with_unfolding_all rfl) (by with_unfolding_all rfl) hr.lim ?_ ?_ ?_ ?_
  · intro s vs hk hl
    revert vs; refine len1 ?_; intro v1; exact BindsTo.of_eq (by with_unfolding_all rfl)
  · with_unfolding_all decide
  · intro L e0 A0
    refine tS_freezeN (i := 5) hd rfl hb hne ?_
    repeat array_get_dec
    refine tE_Dict0K fun kp hkp => ?_
    have hkx : kp ≠ dx := fun q => by rw [q, hput_self] at hkp; cases hkp
    have hk1 : hdel H bg kp = none := by rw [hput_ne hkx] at hkp; exact hkp
    repeat array_get_dec
    refine tU_attr rfl cls100 (by with_unfolding_all rfl) (by rw [hput_ne (Ne.symm hkx)]; exact hput_self) (Nat.le_of_ble_eq_true rfl) ?_
    have hK : KI w sp dx kp (begD ks g) g (hdel H bg) (hput (hput (hput (hdel H bg) dx (.ns scN ((w.ds sp (.raw (.ref bg)) .none).set 5 (begD ks g)))) kp (.tdict [] [])) dx (.ns (setN "kept" (.raw (.ref kp)) scN ((w.ds sp (.raw (.ref bg)) .none).set 5 (begD ks g))).1 (setN "kept" (.raw (.ref kp)) scN ((w.ds sp (.raw (.ref bg)) .none).set 5 (begD ks g))).2)) [] := by
      refine ⟨?_, ?_, fun b e hb h => ?_⟩
      · rw [hput_self]; rfl
      · rw [hput_ne hkx, hput_self]; rfl
      · rw [hput_ne hb, hput_ne (by rintro rfl; rw [hk1] at h; cases h), hput_ne hb]; exact h
    generalize hput (hput (hput (hdel H bg) dx (.ns scN ((w.ds sp (.raw (.ref bg)) .none).set 5 (begD ks g)))) kp (.tdict [] [])) dx (.ns (setN "kept" (.raw (.ref kp)) scN ((w.ds sp (.raw (.ref bg)) .none).set 5 (begD ks g))).1 (setN "kept" (.raw (.ref kp)) scN ((w.ds sp (.raw (.ref bg)) .none).set 5 (begD ks g))).2) = H1 at hK ⊢
    let S0 : Sto := stoL [("self", .inst 100 dx)]
    refine tS_cons (tX_For ?_ (by intro _ _; rfl) (by intro _; with_unfolding_all rfl))
    repeat array_get_dec
    refine t1_own rfl cls100 (by with_unfolding_all rfl) hK.x (by with_unfolding_all rfl) rfl ?_
    refine tIt_idict (by sizeOf_list_dec) ?_
    refine LF_indA (KeI1 w dx sp bg kp ks g S0 H) ?_ ?_ _ _ _ ⟨?_, [], ks, rfl, rfl, hK⟩
    · rintro σ H' ⟨hS, done, todo, e, e2, hK⟩
      have : todo = [] := by cases todo with | nil => rfl | cons => cases e2
      subst this
      rw [List.append_nil] at e
      subst e
      refine tS.less (σ' := S0) ?_ hS
      repeat array_get_dec
      exact h kp H' hkx hk1 hK
    · rintro Q' d ds σ H' ⟨hS, done, todo, e, e2, hK⟩
      cases todo with
      | nil => cases e2
      | cons b todo =>
        injection e2 with e1 e2
        subst e1
        have hbk : b ∈ ks := by rw [e]; simp
        have hbl := hlt b hbk
        have hb3 := hw.bs.len
        have hbn : b ∉ done := fun q => by
          rw [e, List.nodup_append] at hnd
          exact hnd.2.2 b q b (by simp) rfl
        refine tA_loc (by with_unfolding_all rfl) (by with_unfolding_all rfl) ?_
        refine tS.less (σ' := sput S0 "block" (.int b)) ?_ hS.both
        repeat array_get_dec
        refine t1_own rfl cls100 (by with_unfolding_all rfl) hK.x (by with_unfolding_all rfl) rfl ?_
        repeat array_get_dec
        refine t2_itemI (e := .sset (g b)) .z rfl (by rw [getK_map intCast_inj (fun b => D.sset (g b)) b ks, if_pos hbk]) ?_
        repeat array_get_dec
        have hdl : done.length + 1 ≤ 3 := by
          have h1 := hnd.length_le_of_subset (l₂ := List.range w.bs.length) (fun b hb => List.mem_range.mpr (hlt b hb))
          rw [e, List.length_append, List.length_range] at h1
          have : (b :: todo).length = todo.length + 1 := rfl
          omega
        have hkb : (w.bs.map Bk.d)[((b : Nat) : Int).toNat]? = some (w.bs[b].d) := by rw [Int.toNat_natCast, List.getElem?_map, List.getElem?_eq_getElem hbl]; rfl
        have hko := hw.bs.ok _ (List.getElem_mem hbl)
        have hn4 := hko.len
        have hbe : blen w.bs b = w.bs[b].ss.length := by unfold blen; rw [List.getElem?_eq_getElem hbl]
        have l1 : (w.bs[b].ss.map St.d).length < 2 ^ 62 := by rw [List.length_map]; omega
        have hval : ∀ i, i ≤ blen w.bs b → Valid w.bs (b, i) := fun i hi => ⟨w.bs[b], List.getElem?_eq_getElem hbl, by rw [← hbe]; exact hi⟩
        let S1 : List Nat → Sto := fun so => stoL [("self", .inst 100 dx), ("block", .int b), ("some", .sset so)]
        refine tX_For ?_ (by intro _ _; rfl) (by intro _; with_unfolding_all rfl)
        repeat array_get_dec
        refine t1_own rfl cls100 (by with_unfolding_all rfl) hK.x (by with_unfolding_all rfl) rfl ?_
        refine t1_ownZ rfl cls165 (by with_unfolding_all rfl) (by with_unfolding_all rfl) rfl ?_
        repeat array_get_dec
        refine t2_itemL (k := b) .z rfl (by omega) (by omega) hkb ?_
        repeat array_get_dec
        refine t2_itemL (k := 0) .z rfl (by decide) (by decide) rfl ?_
        repeat array_get_dec
        refine tC_range ?_
        have hrn : ((w.bs[b].ss.map St.d).length : Int) + 1 = ((blen w.bs b + 1 : Nat) : Int) := by rw [hbe, List.length_map]; rfl
        rw [hrn]
        refine tIt_rng (n := blen w.bs b + 1) (by sizeOf_list_dec) (by omega) ?_
        refine LF_indA (KeI2 w dx sp bg kp ks g S1 H b done) ?_ ?_ _ _ _
          ⟨0, blen w.bs b + 1, by rw [List.range_eq_range'], by omega, ?_, by simpa using hK⟩
        · rintro σ H' ⟨i, m, e3, e4, hS, hK⟩
          have : m = 0 := by cases m with | zero => rfl | succ => cases e3
          subst this
          refine tS_nil ⟨(less_of (by kernel_rfl) : Less S0 (S1 (w.flow (g b) b i))).trans hS, done ++ [b], todo, by rw [e]; simp, e2, ?_⟩
          have hi : i = blen w.bs b + 1 := by omega
          subst hi
          have : w.ptsOf (done ++ [b]) = w.ptsOf done ++ (List.range (blen w.bs b + 1)).map fun i => (b, i) := by
            unfold Sc.ptsOf; rw [List.flatMap_append]; simp
          rw [this]; exact hK
        · rintro Q' d ds σ H' ⟨i, m, e3, e4, hS, hK⟩
          cases m with
          | zero => cases e3
          | succ m =>
            rw [List.range'_succ] at e3
            injection e3 with e1 e3
            subst e1
            refine tA_loc (by with_unfolding_all rfl) (by with_unfolding_all rfl) ?_
            refine tS.less (σ' := sput (S1 (w.flow (g b) b i)) "index" (.int i)) ?_ hS.both
            have hsm := hw.flow (b := b) (hg b hbk) i
            have hv := hval i (by omega)
            repeat array_get_dec
            refine tG_meth rfl cls100 (by with_unfolding_all rfl) (by with_unfolding_all rfl) hK.x (by with_unfolding_all rfl) ?_
            repeat array_get_dec
            refine c_letOn (p := (b, i)) (by sizeOf_list_dec) hw hK.x hsm.1 hsm.2 ((hw.pts _).mpr hv) ?_
            repeat array_get_dec
            refine t1_own rfl cls100 (by with_unfolding_all rfl) hK.x (by with_unfolding_all rfl) rfl ?_
            repeat array_get_dec
            have hnp : (b, i) ∉ w.ptsOf done ++ (List.range i).map fun i => (b, i) := by
              intro q
              rcases List.mem_append.mp q with q | q
              · obtain ⟨b', hb', q⟩ := List.mem_flatMap.mp q
                obtain ⟨j, _, q⟩ := List.mem_map.mp q
                injection q with q1 q2
                exact hbn (q1 ▸ hb')
              · obtain ⟨j, hj, q⟩ := List.mem_map.mp q
                injection q with q1 q2
                have := List.mem_range.mp hj; omega
            refine tU_setK (k := keyP (b, i)) (by sizeOf_list_dec) hK.k rfl ?_ ?_
            · rw [List.length_map, List.length_append, List.length_map, List.length_range]
              have := w.ptsOf_len hw.bs done
              exact Nat.le_trans (m := 16) (by omega) (by decide)
            rw [putK_map_new (fun _ _ => keyP_inj) (fun p => D.sset (w.keptAt g p)) (b, i) _ _ hnp]
            have hK2 := hK.put hkx hk1 (b, i)
            have hD : D.tdict ((w.ptsOf done ++ (List.range i).map (fun i => (b, i)) ++ [(b, i)]).map keyP) ((w.ptsOf done ++ (List.range i).map (fun i => (b, i))).map (fun p => D.sset (w.keptAt g p)) ++ [.sset (w.letOn (w.flow (g b) b i) (b, i))]) = w.keptD g (w.ptsOf done ++ (List.range i).map (fun i => (b, i)) ++ [(b, i)]) := by
              unfold Sc.keptD; rw [List.map_append (f := fun p => D.sset (w.keptAt g p)) (l₂ := [(b, i)])]; rfl
            rw [hD]
            repeat array_get_dec
            refine tG_meth rfl cls100 (by with_unfolding_all rfl) (by with_unfolding_all rfl) hK2.x (by with_unfolding_all rfl) ?_
            repeat array_get_dec
            refine c_behind (p := (b, i)) (by sizeOf_list_dec) hw hK2.x hv ?_
            repeat array_get_dec
            refine ⟨i + 1, m, e3, by omega, ?_, ?_⟩
            · exact less_of (by kernel_rfl)
            · rw [List.range_succ, List.map_append, ← List.append_assoc]; exact hK2
        · exact less_of (by kernel_rfl)
    · exact less_of (by kernel_rfl)
  · with_unfolding_all decide
end

end

noncomputable section
theorem pref_ended : ∀ (as bs : List Step), (decide (as.length ≤ bs.length) && (List.zipWith (fun a b => decide (a = b) && !a.isIdx) as bs).all id) = (decide (bs.take as.length = as) && (as.filter Step.isIdx).isEmpty)
  | [], bs => by simp
  | a :: as, [] => by simp
  | a :: as, b :: bs => by
    have ih := pref_ended as bs
    simp only [List.length_cons, Nat.add_le_add_iff_right, List.zipWith_cons_cons, List.all_cons, id, List.take_succ_cons, List.filter_cons]
    rw [Bool.eq_iff_iff] at ih ⊢
    simp only [Bool.and_eq_true, decide_eq_true_eq, List.cons.injEq] at ih ⊢
    cases hi : a.isIdx with
    | true => simp
    | false =>
      simp only [Bool.false_eq_true, if_false]
      constructor
      · rintro ⟨h1, ⟨rfl, _⟩, h2⟩; exact ⟨⟨rfl, (ih.mp ⟨h1, h2⟩).1⟩, (ih.mp ⟨h1, h2⟩).2⟩
      · rintro ⟨⟨rfl, h1⟩, h2⟩; exact ⟨(ih.mpr ⟨h1, h2⟩).1, ⟨rfl, rfl⟩, (ih.mpr ⟨h1, h2⟩).2⟩
theorem ended_eq (l : Loan) (p : Place) : endedB l p = prefB p l.p := by
  unfold endedB prefB
  rw [Bool.and_assoc, Bool.and_assoc, pref_ended]
theorem endS_eq (s : St) (l : Loan) : endS s l = killB s l := by
  cases s with
  | assign p rv => exact ended_eq l p
  | dead x => show decide (x = l.p.l) = decide (l.p.l = x); rw [Bool.eq_iff_iff]; simp [eq_comm]
  | nop => rfl
theorem endE_eq (e : End) (l : Loan) : endE e l = killE e l := by
  cases e with
  | call p a => exact ended_eq l p
  | _ => rfl
theorem subs3_ext {ks js : List Nat} (hk : ks ∈ subs3) (hj : js ∈ subs3) (h : ∀ n, n ∈ ks ↔ n ∈ js) : ks = js := by
  rw [← canon_self hk, ← canon_self hj]; exact canon_congr fun n _ => h n
theorem mem_canon3 {w : Sc} (hw : w.Ok) {so : List Nat} (h : ∀ n ∈ so, n < w.ls.length) {n : Nat} : n ∈ canon so ↔ n ∈ so := by
  rw [mem_canon]; have := hw.len; exact ⟨fun q => q.1, fun q => ⟨q, by have := h n q; omega⟩⟩
theorem Sc.Ok.mem_letOn {w : Sc} (hw : w.Ok) {so : List Nat} {p : Pt} (h : w.small so) {n : Nat} : n ∈ w.letOn so p ↔ n ∈ so ∧ ∃ l, w.ls[n]? = some l ∧ p ∈ w.heldL l.r := by
  unfold Sc.letOn
  rw [mem_canon3 hw (fun n hn => h.2 n (List.mem_filter.mp hn).1), List.mem_filter]
  unfold Sc.on
  constructor
  · rintro ⟨h1, h2⟩
    refine ⟨h1, ?_⟩
    split at h2
    · rename_i l hl; exact ⟨l, hl, of_decide_eq_true h2⟩
    · cases h2
  · rintro ⟨h1, l, hl, h2⟩
    refine ⟨h1, ?_⟩
    rw [hl]; exact decide_eq_true h2
theorem Sc.Ok.mem_killed {w : Sc} (hw : w.Ok) (f : Loan → Bool) {n : Nat} : n ∈ canon ((w.ls.filter f).map Loan.n) ↔ ∃ l, w.ls[n]? = some l ∧ f l = true := by
  rw [mem_canon3 hw (fun n hn => by obtain ⟨l, hl, rfl⟩ := List.mem_map.mp hn; exact hw.nlt (List.mem_filter.mp hl).1), List.mem_map]
  constructor
  · rintro ⟨l, hl, rfl⟩
    obtain ⟨h1, h2⟩ := List.mem_filter.mp hl
    obtain ⟨i, hi⟩ := List.getElem?_of_mem h1
    exact ⟨l, by rw [hw.nth i l hi]; exact hi, h2⟩
  · rintro ⟨l, hl, h2⟩
    exact ⟨l, List.mem_filter.mpr ⟨List.mem_of_getElem? hl, h2⟩, hw.nth n l hl⟩
noncomputable def Sc.way (w : Sc) (n : Nat) (p : Pt) : Prop := ∃ l, w.ls[n]? = some l ∧ Reach w.bs l.b ∧ Fol w.bs l (w.heldL l.r) p
theorem Sc.Ok.mem_stay {w : Sc} (hw : w.Ok) {so ks : List Nat} (h : w.small so) {n : Nat} : n ∈ canon (so.filter fun n => !ks.contains n) ↔ n ∈ so ∧ n ∉ ks := by
  rw [mem_canon3 hw (fun n hn => h.2 n (List.mem_filter.mp hn).1), List.mem_filter]
  simp
/-- one statement -/
theorem Sc.Ok.mem_behind {w : Sc} (hw : w.Ok) {so : List Nat} {b i : Nat} {k : Bk} {s : St} (h : w.small so) (hk : w.bs[b]? = some k) (hs : k.ss[i]? = some s) {n : Nat} :
    n ∈ w.behind so (b, i) ↔ (n ∈ so ∧ ∀ l, w.ls[n]? = some l → killB s l = false) ∨ ∃ l, w.ls[n]? = some l ∧ (l.b, l.i) = (b, i) := by
  have e : w.behind so (b, i) = canon (canon (so.filter fun n => !(killed s w.ls).contains n) ++ canon ((w.ls.filter fun l => decide ((l.b, l.i) = (b, i))).map Loan.n)) := by
    unfold Sc.behind; rw [show w.bs[(b, i).1]? = some k from hk]
    show (match k.ss[i]? with | none => _ | some s => _) = _
    rw [hs]
  have m1 : ∀ n, n ∈ canon (so.filter fun n => !(killed s w.ls).contains n) ↔ n ∈ so ∧ n ∉ killed s w.ls := fun n => hw.mem_stay h
  have m2 : ∀ n, n ∈ canon ((w.ls.filter fun l => decide ((l.b, l.i) = (b, i))).map Loan.n) ↔ _ := fun n => hw.mem_killed (fun l => decide ((l.b, l.i) = (b, i)))
  rw [e, mem_canon3 hw, List.mem_append, m1, m2]
  · constructor
    · rintro (⟨h1, h2⟩ | ⟨l, hl, h2⟩)
      · refine .inl ⟨h1, fun l hl => ?_⟩
        cases q : killB s l with
        | false => rfl
        | true => exact absurd ((hw.mem_killed (killB s)).mpr ⟨l, hl, q⟩) h2
      · exact .inr ⟨l, hl, of_decide_eq_true h2⟩
    · rintro (⟨h1, h2⟩ | ⟨l, hl, h2⟩)
      · refine .inl ⟨h1, fun q => ?_⟩
        obtain ⟨l, hl, h3⟩ := (hw.mem_killed (killB s)).mp q
        rw [h2 l hl] at h3; cases h3
      · exact .inr ⟨l, hl, decide_eq_true h2⟩
  · intro n hn
    rcases List.mem_append.mp hn with q | q
    · exact h.2 n ((m1 n).mp q).1
    · obtain ⟨l, hl, _⟩ := (m2 n).mp q; exact (List.getElem?_eq_some_iff.mp hl).1
/-- the end of a block -/
theorem Sc.Ok.mem_behindE {w : Sc} (hw : w.Ok) {so : List Nat} {b : Nat} {k : Bk} (h : w.small so) (hk : w.bs[b]? = some k) {n : Nat} :
    n ∈ w.behind so (b, k.ss.length) ↔ n ∈ so ∧ ∀ l, w.ls[n]? = some l → killE k.e l = false := by
  have e : w.behind so (b, k.ss.length) = canon (so.filter fun n => !(killedE k.e w.ls).contains n) := by
    unfold Sc.behind; rw [show w.bs[(b, k.ss.length).1]? = some k from hk]
    show (match k.ss[k.ss.length]? with | none => _ | some s => _) = _
    rw [List.getElem?_eq_none (Nat.le_refl _)]
  rw [e, hw.mem_stay h]
  constructor
  · rintro ⟨h1, h2⟩
    refine ⟨h1, fun l hl => ?_⟩
    cases q : killE k.e l with
    | false => rfl
    | true => exact absurd ((hw.mem_killed (killE k.e)).mpr ⟨l, hl, q⟩) h2
  · rintro ⟨h1, h2⟩
    refine ⟨h1, fun q => ?_⟩
    obtain ⟨l, hl, h3⟩ := (hw.mem_killed (killE k.e)).mp q
    rw [h2 l hl] at h3; cases h3
theorem nexts_in {bs : List Bk} {b i : Nat} {k : Bk} (hk : bs[b]? = some k) (hi : i < k.ss.length) : nexts bs (b, i) = [(b, i + 1)] := by
  unfold nexts; rw [show bs[(b, i).1]? = some k from hk]; exact if_pos hi
theorem nexts_end {bs : List Bk} {b : Nat} {k : Bk} (hk : bs[b]? = some k) : nexts bs (b, k.ss.length) = k.e.to.map fun t => (t, 0) := by
  unfold nexts; rw [show bs[(b, k.ss.length).1]? = some k from hk]; exact if_neg (Nat.lt_irrefl _)
theorem goes_in {bs : List Bk} {b i : Nat} {k : Bk} {s : St} {l : Loan} (hk : bs[b]? = some k) (hs : k.ss[i]? = some s) : goesB bs (b, i) l = (decide ((l.b, l.i) = (b, i)) || !killB s l) := by
  unfold goesB; rw [show bs[(b, i).1]? = some k from hk]
  show goesK k (b, i) l = _
  unfold goesK
  show (match k.ss[i]? with | none => _ | some s => _) = _
  rw [hs, ← endS_eq]
theorem goes_end {bs : List Bk} {b : Nat} {k : Bk} {l : Loan} (hk : bs[b]? = some k) : goesB bs (b, k.ss.length) l = !killE k.e l := by
  unfold goesB; rw [show bs[(b, k.ss.length).1]? = some k from hk]
  show goesK k (b, k.ss.length) l = _
  unfold goesK
  show (match k.ss[k.ss.length]? with | none => _ | some s => _) = _
  rw [List.getElem?_eq_none (Nat.le_refl _), ← endE_eq]
/-- what flows is on its way -/
theorem Sc.Ok.flow_way {w : Sc} (hw : w.Ok) {so : List Nat} {b : Nat} {k : Bk} (h : w.small so) (hk : w.bs[b]? = some k) (hr : Reach w.bs b) (hs : ∀ n ∈ so, w.way n (b, 0)) : ∀ i, i ≤ k.ss.length → ∀ n ∈ w.flow so b i, w.way n (b, i)
  | 0, _, n, hn => hs n hn
  | i + 1, hi, n, hn => by
    have ih := flow_way hw h hk hr hs i (Nat.le_of_succ_le hi)
    have hst : k.ss[i]? = some k.ss[i] := List.getElem?_eq_getElem hi
    rcases (hw.mem_behind (Sc.Ok.letOn (hw.flow h i)) hk hst).mp hn with ⟨h1, h2⟩ | ⟨l, hl, h2⟩
    · obtain ⟨h3, l, hl, h4⟩ := (hw.mem_letOn (hw.flow h i)).mp h1
      obtain ⟨l', hl', hr', hf⟩ := ih n h3
      have : l' = l := Option.some.inj (hl'.symm.trans hl)
      subst this
      refine ⟨l', hl, hr', .step hf h4 ?_ (by rw [nexts_in hk hi]; simp)⟩
      rw [goes_in hk hst, h2 l' hl]; simp
    · refine ⟨l, hl, ?_, .start ?_⟩
      · have : l.b = b := congrArg Prod.fst h2
        rw [this]; exact hr
      · rw [h2, nexts_in hk hi]; simp
theorem Sc.Ok.flow_out {w : Sc} (hw : w.Ok) {so : List Nat} {b : Nat} {k : Bk} (h : w.small so) (hk : w.bs[b]? = some k) (hr : Reach w.bs b) (hs : ∀ n ∈ so, w.way n (b, 0)) {t : Nat} (ht : t ∈ k.e.to) : ∀ n ∈ w.flow so b (k.ss.length + 1), w.way n (t, 0) := by
  intro n hn
  obtain ⟨h1, h2⟩ := (hw.mem_behindE (Sc.Ok.letOn (hw.flow h k.ss.length)) hk).mp hn
  obtain ⟨h3, l, hl, h4⟩ := (hw.mem_letOn (hw.flow h k.ss.length)).mp h1
  obtain ⟨l', hl', hr', hf⟩ := hw.flow_way h hk hr hs _ (Nat.le_refl _) n h3
  have : l' = l := Option.some.inj (hl'.symm.trans hl)
  subst this
  refine ⟨l', hl, hr', .step hf h4 ?_ (by rw [nexts_end hk]; exact List.mem_map.mpr ⟨t, ht, rfl⟩)⟩
  rw [goes_end hk, h2 l' hl]; rfl
/-- what lead finds -/
structure LeadOk (w : Sc) (ks : List Nat) (g : Nat → List Nat) : Prop where
  nd : ks.Nodup
  zero : 0 ∈ ks
  lt : ∀ b ∈ ks, b < w.bs.length
  small : ∀ b ∈ ks, w.small (g b)
  reach : ∀ b ∈ ks, Reach w.bs b
  sound : ∀ b ∈ ks, ∀ n ∈ g b, w.way n (b, 0)
  closed : ∀ b ∈ ks, ∀ t ∈ succs w.bs b, t ∈ ks ∧ ∀ n ∈ w.flow (g b) b (blen w.bs b + 1), n ∈ g t
theorem LeadOk.come {w : Sc} {ks : List Nat} {g : Nat → List Nat} (c : LeadOk w ks g) (b : Nat) : b ∈ ks ↔ Reach w.bs b := by
  refine ⟨c.reach b, fun h => ?_⟩
  induction h with
  | zero => exact c.zero
  | step _ ht ih => exact (c.closed _ ih _ ht).1
theorem blen_of {bs : List Bk} {b : Nat} {k : Bk} (hk : bs[b]? = some k) : blen bs b = k.ss.length := by unfold blen; rw [hk]
theorem succs_of {bs : List Bk} {b : Nat} {k : Bk} (hk : bs[b]? = some k) : succs bs b = k.e.to := by unfold succs; rw [hk]
theorem LeadOk.full {w : Sc} {ks : List Nat} {g : Nat → List Nat} (hw : w.Ok) (c : LeadOk w ks g) {n : Nat} {l : Loan} (hl : w.ls[n]? = some l) (hr : Reach w.bs l.b) {p : Pt} (hf : Fol w.bs l (w.heldL l.r) p) :
    p.1 ∈ ks ∧ Valid w.bs p ∧ n ∈ w.flow (g p.1) p.1 p.2 := by
  obtain ⟨k, hk, hi⟩ := hw.lv l (List.mem_of_getElem? hl)
  have hbk := (c.come _).mpr hr
  induction hf with
  | @start q hq =>
    rw [nexts_in hk hi] at hq
    rw [List.mem_singleton] at hq; subst hq
    refine ⟨hbk, ⟨k, hk, hi⟩, ?_⟩
    exact (hw.mem_behind (Sc.Ok.letOn (hw.flow (c.small _ hbk) l.i)) hk (List.getElem?_eq_getElem hi)).mpr (.inr ⟨l, hl, rfl⟩)
  | @step q r _ hh hg hq ih =>
    obtain ⟨b, i⟩ := q
    obtain ⟨h1, ⟨k', hk', hi'⟩, h2⟩ := ih
    have hk' : w.bs[b]? = some k' := hk'
    have hi' : i ≤ k'.ss.length := hi'
    have h1 : b ∈ ks := h1
    have h2 : n ∈ w.flow (g b) b i := h2
    have hfs := hw.flow (b := b) (c.small _ h1) i
    have hon : n ∈ w.letOn (w.flow (g b) b i) (b, i) := (hw.mem_letOn hfs).mpr ⟨h2, l, hl, hh⟩
    rcases Nat.lt_or_ge i k'.ss.length with hlt | hge
    · rw [nexts_in hk' hlt] at hq
      rw [List.mem_singleton] at hq; subst hq
      refine ⟨h1, ⟨k', hk', hlt⟩, ?_⟩
      have hst : k'.ss[i]? = some k'.ss[i] := List.getElem?_eq_getElem hlt
      rw [goes_in hk' hst] at hg
      refine (hw.mem_behind (Sc.Ok.letOn hfs) hk' hst).mpr ?_
      by_cases e : (l.b, l.i) = (b, i)
      · exact .inr ⟨l, hl, e⟩
      · refine .inl ⟨hon, fun l' hl' => ?_⟩
        have : l' = l := Option.some.inj (hl'.symm.trans hl)
        subst this
        simpa [e] using hg
    · have : i = k'.ss.length := Nat.le_antisymm hi' hge
      subst this
      rw [nexts_end hk'] at hq
      obtain ⟨t, ht, rfl⟩ := List.mem_map.mp hq
      rw [goes_end hk'] at hg
      have hcl := c.closed b h1 t (by rw [succs_of hk']; exact ht)
      refine ⟨hcl.1, ⟨_, List.getElem?_eq_getElem (c.lt _ hcl.1), Nat.zero_le _⟩, hcl.2 n ?_⟩
      rw [blen_of hk']
      refine (hw.mem_behindE (Sc.Ok.letOn hfs) hk').mpr ⟨hon, fun l' hl' => ?_⟩
      have : l' = l := Option.some.inj (hl'.symm.trans hl)
      subst this
      simpa using hg
/-- a loan is in the flow of a point just if its way comes there -/
theorem LeadOk.flow_iff {w : Sc} {ks : List Nat} {g : Nat → List Nat} (hw : w.Ok) (c : LeadOk w ks g) {p : Pt} (hp : Valid w.bs p) (hb : p.1 ∈ ks) (n : Nat) : n ∈ w.flow (g p.1) p.1 p.2 ↔ w.way n p := by
  obtain ⟨k, hk, hi⟩ := hp
  refine ⟨fun h => hw.flow_way (c.small _ hb) hk (c.reach _ hb) (c.sound _ hb) _ hi n h, fun ⟨l, hl, hr, hf⟩ => (c.full hw hl hr hf).2.2⟩

end

noncomputable section
noncomputable def addk (t : Nat) (ks : List Nat) : List Nat := if t ∈ ks then ks else ks ++ [t]
noncomputable def upd (g : Nat → List Nat) (t : Nat) (s : List Nat) : Nat → List Nat := fun x => if x = t then s else g x
theorem mem_addk {t x : Nat} {ks : List Nat} : x ∈ addk t ks ↔ x ∈ ks ∨ x = t := by
  unfold addk; split
  · rename_i h; exact ⟨.inl, fun q => q.elim id fun e => e ▸ h⟩
  · simp
theorem begD_put {ks : List Nat} {g : Nat → List Nat} (hn : ks.Nodup) (t : Nat) (s : List Nat) :
    D.idict (putK (t : Int) (.sset s) (ks.map fun n : Nat => (n : Int)) (ks.map fun b => D.sset (g b))).1 (putK (t : Int) (.sset s) (ks.map fun n : Nat => (n : Int)) (ks.map fun b => D.sset (g b))).2 = begD (addk t ks) (upd g t s) := by
  unfold begD addk
  by_cases h : t ∈ ks
  · rw [if_pos h, putK_map_old intCast_inj (fun b => D.sset (g b)) t (.sset s) ks hn h]
    congr 1
    refine List.map_congr_left fun x _ => ?_
    unfold upd; split <;> rfl
  · rw [if_neg h, putK_map_new intCast_inj (fun b => D.sset (g b)) t (.sset s) ks h]
    have e : (ks.map fun b => D.sset (g b)) ++ [.sset s] = (ks ++ [t]).map fun b => D.sset (upd g t s b) := by
      rw [List.map_append]
      congr 1
      · refine List.map_congr_left fun x hx => ?_
        unfold upd; rw [if_neg (by rintro rfl; exact h hx)]
      · show [D.sset s] = [D.sset (upd g t s t)]
        unfold upd; rw [if_pos rfl]
    rw [e]
noncomputable def cst (ks : List Nat) (g : Nat → List Nat) (b : Nat) : Nat := if b ∈ ks then 3 - (g b).length else 4
noncomputable def pot (ks : List Nat) (g : Nat → List Nat) : Nat := cst ks g 0 + cst ks g 1 + cst ks g 2
noncomputable def gOf (ks : List Nat) (g : Nat → List Nat) (t : Nat) : List Nat := if t ∈ ks then g t else []
theorem grow3 : ∀ ks ∈ subs3, ∀ js ∈ subs3, canon (ks ++ js) ≠ ks → ks.length < (canon (ks ++ js)).length := by decide
theorem canon_or (ks js : List Nat) : canon (ks ++ js) = canon (ks ++ canon js) := canon_congr fun n hn => by
  rw [List.mem_append, List.mem_append, mem_canon]
  exact ⟨fun q => q.imp id fun h => ⟨h, hn⟩, fun q => q.imp id fun h => h.1⟩
theorem pot_lt {ks : List Nat} {g : Nat → List Nat} {t : Nat} {js : List Nat} (ht : t < 3) (hg : t ∈ ks → g t ∈ subs3) (hc : t ∉ ks ∨ canon (gOf ks g t ++ js) ≠ g t) : pot (addk t ks) (upd g t (canon (gOf ks g t ++ js))) < pot ks g := by
  have hl : (canon (gOf ks g t ++ js)).length ≤ 3 := subs3_len (canon_sub _)
  have h1 : cst (addk t ks) (upd g t (canon (gOf ks g t ++ js))) t < cst ks g t := by
    unfold cst
    rw [if_pos (mem_addk.mpr (.inr rfl)), show upd g t (canon (gOf ks g t ++ js)) t = canon (gOf ks g t ++ js) from if_pos rfl]
    by_cases h : t ∈ ks
    · rw [if_pos h]
      have hc := hc.resolve_left (by simpa using h)
      have e : gOf ks g t = g t := if_pos h
      rw [e] at hc hl ⊢
      rw [canon_or] at hc hl ⊢
      have := grow3 _ (hg h) _ (canon_sub js) hc
      omega
    · rw [if_neg h]; omega
  have h2 : ∀ b, b ≠ t → cst (addk t ks) (upd g t (canon (gOf ks g t ++ js))) b = cst ks g b := fun b hb => by
    unfold cst
    rw [show upd g t (canon (gOf ks g t ++ js)) b = g b from if_neg hb]
    by_cases h : b ∈ ks
    · rw [if_pos h, if_pos (mem_addk.mpr (.inl h))]
    · rw [if_neg h, if_neg (fun q => (mem_addk.mp q).elim h hb)]
  unfold pot
  match t, ht with
  | 0, _ => have := h2 1 (by decide); have := h2 2 (by decide); omega
  | 1, _ => have := h2 0 (by decide); have := h2 2 (by decide); omega
  | 2, _ => have := h2 0 (by decide); have := h2 1 (by decide); omega
noncomputable def Sc.out (w : Sc) (so : List Nat) (b : Nat) : List Nat := w.flow so b (blen w.bs b + 1)
structure LI (w : Sc) (ks : List Nat) (g : Nat → List Nat) (ls : List Nat) (x : Option Nat) : Prop where
  nd : ks.Nodup
  zero : 0 ∈ ks
  lt : ∀ b ∈ ks, b < w.bs.length
  small : ∀ b ∈ ks, w.small (g b)
  reach : ∀ b ∈ ks, Reach w.bs b
  sound : ∀ b ∈ ks, ∀ n ∈ g b, w.way n (b, 0)
  sub : ∀ b ∈ ls, b ∈ ks
  closed : ∀ b ∈ ks, b ∉ ls → some b ≠ x → ∀ t ∈ succs w.bs b, t ∈ ks ∧ ∀ n ∈ w.out (g b) b, n ∈ g t
theorem LI.done {w : Sc} {ks : List Nat} {g : Nat → List Nat} (c : LI w ks g [] none) : LeadOk w ks g := ⟨c.nd, c.zero, c.lt, c.small, c.reach, c.sound, fun b hb => c.closed b hb (by simp) (by simp)⟩
theorem LI.pop {w : Sc} {ks ls : List Nat} {g : Nat → List Nat} {b : Nat} (c : LI w ks g (ls ++ [b]) none) : LI w ks g ls (some b) :=
  ⟨c.nd, c.zero, c.lt, c.small, c.reach, c.sound, fun t ht => c.sub t (by simp [ht]), fun t ht hl hx => c.closed t ht (by simp only [List.mem_append, List.mem_singleton, not_or]; exact ⟨hl, fun q => hx (by rw [q])⟩) (by simp)⟩
/-- while a block's ways on are looked at -/
structure LP (w : Sc) (b : Nat) (so : List Nat) (ks : List Nat) (g : Nat → List Nat) (ls ts : List Nat) : Prop where
  li : LI w ks g ls (some b)
  bk : b ∈ ks
  old : b ∈ ls ∨ g b = so
  todo : ∀ t ∈ ts, t ∈ succs w.bs b
  did : ∀ t ∈ succs w.bs b, t ∈ ts ∨ (t ∈ ks ∧ ∀ n ∈ w.out so b, n ∈ g t)
  way : ∀ t ∈ succs w.bs b, ∀ n ∈ w.out so b, w.way n (t, 0)
  osm : w.small (w.out so b)
theorem gOf_small {w : Sc} {ks ls : List Nat} {g : Nat → List Nat} {x : Option Nat} (c : LI w ks g ls x) (t : Nat) : w.small (gOf ks g t) := by
  unfold gOf; split
  · rename_i h; exact c.small t h
  · exact ⟨by decide, fun n hn => by cases hn⟩
theorem LP.same {w : Sc} {b t : Nat} {so ks ls ts : List Nat} {g : Nat → List Nat} (hw : w.Ok) (c : LP w b so ks g ls (t :: ts)) (h1 : t ∈ ks) (h2 : canon (gOf ks g t ++ w.out so b) = g t) : LP w b so ks g ls ts :=
  ⟨c.li, c.bk, c.old, fun y hy => c.todo y (List.mem_cons_of_mem _ hy), fun y hy => by
    rcases c.did y hy with q | q
    · rcases List.mem_cons.mp q with rfl | q
      · refine .inr ⟨h1, fun n hn => ?_⟩
        rw [← h2]
        have := hw.len
        exact mem_canon.mpr ⟨List.mem_append_right _ hn, by have := c.osm.2 n hn; omega⟩
      · exact .inl q
    · exact .inr q, c.way, c.osm⟩
theorem LP.grow {w : Sc} {b t : Nat} {so ks ls ts : List Nat} {g : Nat → List Nat} (hw : w.Ok) (c : LP w b so ks g ls (t :: ts)) :
    LP w b so (addk t ks) (upd g t (canon (gOf ks g t ++ w.out so b))) (ls ++ [t]) ts := by
  have hl3 := hw.len
  have hts := c.todo t List.mem_cons_self
  have ut : upd g t (canon (gOf ks g t ++ w.out so b)) t = canon (gOf ks g t ++ w.out so b) := if_pos rfl
  have un : ∀ y, y ≠ t → upd g t (canon (gOf ks g t ++ w.out so b)) y = g y := fun y hy => if_neg hy
  have gs := gOf_small c.li t
  have up : ∀ y ∈ ks, ∀ n ∈ g y, n ∈ upd g t (canon (gOf ks g t ++ w.out so b)) y := fun y hy n hn => by
    by_cases q : y = t
    · subst q
      rw [ut]
      have : gOf ks g y = g y := if_pos hy
      rw [this]
      exact mem_canon.mpr ⟨List.mem_append_left _ hn, by have := (c.li.small y hy).2 n hn; omega⟩
    · rw [un y q]; exact hn
  have outIn : ∀ n ∈ w.out so b, n ∈ upd g t (canon (gOf ks g t ++ w.out so b)) t := fun n hn => by
    rw [ut]; exact mem_canon.mpr ⟨List.mem_append_right _ hn, by have := c.osm.2 n hn; omega⟩
  refine ⟨⟨?_, mem_addk.mpr (.inl c.li.zero), ?_, ?_, ?_, ?_, ?_, ?_⟩, mem_addk.mpr (.inl c.bk), ?_, fun y hy => c.todo y (List.mem_cons_of_mem _ hy), ?_, c.way, c.osm⟩
  · unfold addk; split
    · exact c.li.nd
    · rename_i h
      rw [List.nodup_append]; exact ⟨c.li.nd, by simp, fun x hx y hy => by rw [List.mem_singleton] at hy; subst hy; rintro rfl; exact h hx⟩
  · intro y hy
    rcases mem_addk.mp hy with q | rfl
    · exact c.li.lt y q
    · exact hw.bs.succ hts
  · intro y hy
    by_cases q : y = t
    · subst q
      rw [ut]
      refine ⟨canon_sub _, fun n hn => ?_⟩
      rcases List.mem_append.mp (mem_canon.mp hn).1 with h | h
      · exact gs.2 n h
      · exact c.osm.2 n h
    · rw [un y q]; exact c.li.small y ((mem_addk.mp hy).resolve_right q)
  · intro y hy
    rcases mem_addk.mp hy with q | rfl
    · exact c.li.reach y q
    · exact .step (c.li.reach b c.bk) hts
  · intro y hy n hn
    by_cases q : y = t
    · subst q
      rw [ut] at hn
      rcases List.mem_append.mp (mem_canon.mp hn).1 with h | h
      · unfold gOf at h; split at h
        · rename_i hk; exact c.li.sound y hk n h
        · cases h
      · exact c.way y hts n h
    · rw [un y q] at hn; exact c.li.sound y ((mem_addk.mp hy).resolve_right q) n hn
  · intro y hy
    rcases List.mem_append.mp hy with q | q
    · exact mem_addk.mpr (.inl (c.li.sub y q))
    · rw [List.mem_singleton] at q; subst q; exact mem_addk.mpr (.inr rfl)
  · intro y hy hl hx
    rw [List.mem_append, not_or, List.mem_singleton] at hl
    have hy' := (mem_addk.mp hy).resolve_right hl.2
    intro z hz
    have := c.li.closed y hy' hl.1 hx z hz
    rw [un y hl.2]
    exact ⟨mem_addk.mpr (.inl this.1), fun n hn => up z this.1 n (this.2 n hn)⟩
  · by_cases q : b = t
    · left; rw [q]; simp
    · rcases c.old with h | h
      · left; simp [h]
      · right; rw [un b q]; exact h
  · intro y hy
    rcases c.did y hy with q | q
    · rcases List.mem_cons.mp q with rfl | q
      · exact .inr ⟨mem_addk.mpr (.inr rfl), outIn⟩
      · exact .inl q
    · exact .inr ⟨mem_addk.mpr (.inl q.1), fun n hn => up y q.1 n (q.2 n hn)⟩
theorem LP.fin {w : Sc} {b : Nat} {so ks ls : List Nat} {g : Nat → List Nat} (c : LP w b so ks g ls []) : LI w ks g ls none :=
  ⟨c.li.nd, c.li.zero, c.li.lt, c.li.small, c.li.reach, c.li.sound, c.li.sub, fun y hy hl _ => by
    by_cases q : y = b
    · subst q
      have hg := c.old.resolve_left hl
      intro t ht
      rw [hg]
      exact (c.did t ht).resolve_left (by simp)
    · exact c.li.closed y hy hl (fun h => q (by injection h))⟩
theorem LI.start {w : Sc} {ks ls : List Nat} {g : Nat → List Nat} {b : Nat} (hw : w.Ok) (c : LI w ks g ls (some b)) (hb : b ∈ ks) : LP w b (g b) ks g ls (succs w.bs b) := by
  have hlt := c.lt b hb
  have hk : w.bs[b]? = some w.bs[b] := List.getElem?_eq_getElem hlt
  refine ⟨c, hb, .inr rfl, fun _ h => h, fun _ h => .inl h, fun t ht n hn => ?_, hw.flow (c.small b hb) _⟩
  rw [succs_of hk] at ht
  unfold Sc.out at hn
  rw [blen_of hk] at hn
  exact hw.flow_out (c.small b hb) hk (c.reach b hb) (c.sound b hb) ht n hn
theorem LI.first {w : Sc} (hw : w.Ok) : LI w [0] (fun _ => []) [0] none := by
  refine ⟨by simp, by simp, by simpa using hw.bs.pos, fun _ _ => ⟨by decide, fun n hn => by cases hn⟩, ?_, fun _ _ n hn => (by cases hn), by simp, by simp⟩
  simpa using Reach.zero

end

noncomputable section
theorem begD_get (ks : List Nat) (g : Nat → List Nat) (t : Nat) : getK (t : Int) (ks.map fun n : Nat => (n : Int)) (ks.map fun b => D.sset (g b)) = if t ∈ ks then some (.sset (g t)) else none :=
  getK_map intCast_inj (fun b => D.sset (g b)) t ks
structure LH (w : Sc) (sp dx bg l : Addr) (H H' : Hp) (ks : List Nat) (g : Nat → List Nat) (ls : List Nat) : Prop where
  x : H' dx = some (.ns scN (w.ds sp (.raw (.ref bg)) .none))
  b : H' bg = some (begD ks g)
  l : H' l = some (intsD ls)
  ext : ∀ b e, b ≠ bg → H b = some e → H' b = some e
inductive LeI1 (w : Sc) (dx sp bg l : Addr) (S0 : Sto) (H : Hp) (n : Nat) (σ : Sto) (H' : Hp) : Prop
  | mk (i1 : Less S0 σ) (ks : List Nat) (g : Nat → List Nat) (ls : List Nat) (i2 : LH w sp dx bg l H H' ks g ls) (i3 : LI w ks g ls none) (i4 : ls.length + pot ks g = n) (i5 : n ≤ 100)
inductive LeI2 (w : Sc) (g : Nat → List Nat) (S1 : List Nat → Sto) (H1 : Hp) (b : Nat) (ds : List D) (σ : Sto) (H' : Hp) : Prop
  | mk (i1 : H' = H1) (i m : Nat) (i2 : ds = (List.range' i m).map (fun i : Nat => D.int i)) (i3 : i + m = blen w.bs b + 1) (i4 : Less (S1 (w.flow (g b) b i)) σ)
inductive LeI3 (w : Sc) (dx sp bg l : Addr) (g : Nat → List Nat) (S1 : List Nat → Sto) (H : Hp) (b n : Nat) (ds : List D) (σ : Sto) (H' : Hp) : Prop
  | mk (ks' : List Nat) (g' : Nat → List Nat) (ls' ts : List Nat) (i1 : ds = (ts.map fun n : Nat => D.int n)) (i2 : Less (S1 (w.out (g b) b)) σ) (i3 : LH w sp dx bg l H H' ks' g' ls') (i4 : LP w b (g b) ks' g' ls' ts) (i5 : ls'.length + pot ks' g' < n)
section
variable {X : Cx} {A : Around} {H : Hp} {env : Env} {σ : Sto}
theorem c_lead {w : Sc} {dx sp bg : Addr} {Q : D → Hp → Prop} (hr : Room A 5) (hw : w.Ok) (hd : H dx = some (.ns scN (w.ds sp (.raw (.ref bg)) .none))) (hb : H bg = some (.idict [0] [.sset []])) (hne : bg ≠ dx)
    (h : ∀ kp ks g H', kp ≠ dx → LeadOk w ks g → KI w sp dx kp (begD ks g) g (hdel H bg) H' (w.ptsOf ks) → Q .none H') : tC X A (.ref 83) [.inst 100 dx] H Q := by
  refine tC_def (X := X) (f := 83) (ds := [.inst 100 dx]) (ho := by with_unfolding_all rfl) (by with_unfolding_all rfl) hr.lim ?_ ?_ ?_ ?_
  · intro s vs hk hl
    revert vs; refine len1 ?_; intro v1; exact BindsTo.of_eq (by with_unfolding_all rfl)
  · with_unfolding_all decide
  · intro L e0 A0
    refine tS_cons (tX_Assign (tE_ListM (by with_unfolding_all rfl) ?_) (by with_unfolding_all rfl) (by with_unfolding_all rfl) (by with_unfolding_all rfl))
    repeat array_get_dec
    intro l hl
    array_get_dec
    have hlx : l ≠ dx := fun q => by rw [q, hd] at hl; cases hl
    have hlb : l ≠ bg := fun q => by rw [q, hb] at hl; cases hl
    have hb3 := hw.bs.len
    let S0 : Sto := stoL [("self", .inst 100 dx), ("left", .raw (.ref l))]
    have hH0 : LH w sp dx bg l H (hput H l (.lst [.int 0])) [0] (fun _ => []) [0] :=
      ⟨by rw [hput_ne (Ne.symm hlx)]; exact hd, by rw [hput_ne (Ne.symm hlb)]; exact hb, hput_self, fun b e _ he => by rw [hput_ne (by rintro rfl; rw [hl] at he; cases he)]; exact he⟩
    refine tS_cons (tX_While 1000 (LW_ind (LeI1 w dx sp bg l S0 H) ?_ 1000 (1 + pot [0] (fun _ => [])) _ _ (by decide) ⟨?_, [0], fun _ => [], [0], hH0, LI.first hw, rfl, by decide⟩))
    · rintro n σ H' ⟨hS, ks, g, ls, hH, c, hn, hn100⟩
      refine tT.less (σ' := S0) ?_ hS
      repeat array_get_dec
      refine t2_nilNe (.h hH.l) (flat_ints ls) (by sizeOf_list_dec) ?_
      repeat array_get_dec
      refine itB (fun e => ?_) (fun e => ?_)
      · rcases List.eq_nil_or_concat ls with rfl | ⟨ls, b, rfl⟩
        · cases e
        rw [List.concat_eq_append] at hH c hn
        have hbk : b ∈ ks := c.sub b (by simp)
        have hbl := c.lt b hbk
        have c1 := c.pop
        have hk : w.bs[b]? = some w.bs[b] := List.getElem?_eq_getElem hbl
        have cp := c1.start hw hbk
        have hkb : (w.bs.map Bk.d)[((b : Nat) : Int).toNat]? = some (w.bs[b].d) := by rw [Int.toNat_natCast, List.getElem?_map, hk]; rfl
        have hko := hw.bs.ok _ (List.getElem_mem hbl)
        have hn4 := hko.len
        have hbe : blen w.bs b = w.bs[b].ss.length := blen_of hk
        have l1 : (w.bs[b].ss.map St.d).length < 2 ^ 62 := by rw [List.length_map]; omega
        have hval : ∀ i, i ≤ blen w.bs b → Valid w.bs (b, i) := fun i hi => ⟨w.bs[b], hk, by rw [← hbe]; exact hi⟩
        have hsu : succs w.bs b = w.bs[b].e.to := succs_of hk
        rw [List.length_append] at hn
        have hn : ls.length + 1 + pot ks g = n := hn
        refine tS.less (σ' := S0) ?_ hS
        repeat array_get_dec
        refine tG_pop hH.l ?_
        repeat array_get_dec
        refine tC_pop (d := .int b) hH.l (by rw [List.length_map, List.length_append]; exact Nat.le_trans (m := 100) (by show ls.length + 1 ≤ 100; omega) (by decide)) (by simp) ?_
        have hL1 : (hput H' l (.lst ((ls ++ [b]).map fun n : Nat => D.int n).dropLast)) = hput H' l (intsD ls) := by rw [List.map_append, List.map_cons, List.map_nil, List.dropLast_concat]; rfl
        rw [hL1]
        have hH1 : LH w sp dx bg l H (hput H' l (intsD ls)) ks g ls :=
          ⟨by rw [hput_ne (Ne.symm hlx)]; exact hH.x, by rw [hput_ne (Ne.symm hlb)]; exact hH.b, hput_self, fun b e hb he => by rw [hput_ne (by rintro rfl; rw [hl] at he; cases he)]; exact hH.ext b e hb he⟩
        generalize hput H' l (intsD ls) = H1 at hH1 ⊢
        repeat array_get_dec
        refine t1_own rfl cls100 (by with_unfolding_all rfl) hH1.x (by with_unfolding_all rfl) rfl ?_
        repeat array_get_dec
        refine t2_itemI (e := .sset (g b)) (.h hH1.b) rfl (by rw [begD_get, if_pos hbk]) ?_
        let S1 : List Nat → Sto := fun so => stoL [("self", .inst 100 dx), ("left", .raw (.ref l)), ("block", .int b), ("some", .sset so)]
        array_get_dec
        refine tS_cons (tX_For ?_ (by intro _ _; rfl) (by intro _; with_unfolding_all rfl))
        repeat array_get_dec
        refine t1_own rfl cls100 (by with_unfolding_all rfl) hH1.x (by with_unfolding_all rfl) rfl ?_
        refine t1_ownZ rfl cls165 (by with_unfolding_all rfl) (by with_unfolding_all rfl) rfl ?_
        repeat array_get_dec
        refine t2_itemL (k := b) .z rfl (by omega) (by omega) hkb ?_
        repeat array_get_dec
        refine t2_itemL (k := 0) .z rfl (by decide) (by decide) rfl ?_
        repeat array_get_dec
        refine tC_range ?_
        have hrn : ((w.bs[b].ss.map St.d).length : Int) + 1 = ((blen w.bs b + 1 : Nat) : Int) := by rw [hbe, List.length_map]; rfl
        rw [hrn]
        refine tIt_rng (n := blen w.bs b + 1) (by sizeOf_list_dec) (by omega) ?_
        refine LF_indA (LeI2 w g S1 H1 b) ?_ ?_ _ _ _
          ⟨rfl, 0, blen w.bs b + 1, by rw [List.range_eq_range'], by omega, ?_⟩
        · rintro σ H' ⟨rfl, i, m, e3, e4, hS⟩
          have : m = 0 := by cases m with | zero => rfl | succ => cases e3
          subst this
          have hi : i = blen w.bs b + 1 := by omega
          subst hi
          refine tS.less (σ' := S1 (w.out (g b) b)) ?_ hS
          refine tS_cons (tX_For ?_ (by intro _ _; rfl) (by intro _; with_unfolding_all rfl))
          repeat array_get_dec
          refine tG_held (f := .ref 197) rfl cls100 (by with_unfolding_all rfl) hH1.x (by with_unfolding_all rfl) (by with_unfolding_all rfl) ?_
          repeat array_get_dec
          refine t1_own rfl cls100 (by with_unfolding_all rfl) hH1.x (by with_unfolding_all rfl) rfl ?_
          refine t1_ownZ rfl cls165 (by with_unfolding_all rfl) (by with_unfolding_all rfl) rfl ?_
          repeat array_get_dec
          refine t2_itemL (k := b) .z rfl (by omega) (by omega) hkb ?_
          repeat array_get_dec
          refine t2_itemL (k := 1) .z rfl (by decide) (by decide) rfl ?_
          repeat array_get_dec
          refine c_after (by sizeOf_list_dec) ?_
          repeat array_get_dec
          refine LF_indA (LeI3 w dx sp bg l g S1 H b n) ?_ ?_ _ _ _
            ⟨ks, g, ls, succs w.bs b, by rw [hsu], Less.refl _, hH1, cp, by omega⟩
          · rintro σ H' ⟨ks', g', ls', ts, e5, hS, hH, cp, hlt⟩
            have : ts = [] := by cases ts with | nil => rfl | cons => cases e5
            subst this
            refine tS_nil ⟨_, hlt, ?_, ks', g', ls', hH, cp.fin, rfl, by omega⟩
            exact (less_of (by kernel_rfl) : Less S0 (S1 (w.out (g b) b))).trans hS
          · rintro Q' d ds σ H' ⟨ks', g', ls', ts, e5, hS, hH, cp, hlt⟩
            cases ts with
            | nil => cases e5
            | cons t ts =>
              injection e5 with e1 e5
              subst e1
              have ht3 : t < 3 := by have := hw.bs.succ (cp.todo t List.mem_cons_self); omega
              refine tA_loc (by with_unfolding_all rfl) (by with_unfolding_all rfl) ?_
              refine tS.less (σ' := sput (S1 (w.out (g b) b)) "later" (.int t)) ?_ hS.both
              repeat array_get_dec
              refine t1_own rfl cls100 (by with_unfolding_all rfl) hH.x (by with_unfolding_all rfl) rfl ?_
              refine tG_get (.inl ⟨_, _, .h hH.b⟩) ?_
              repeat array_get_dec
              refine tC_fz0 ?_
              repeat array_get_dec
              refine tC_getI (.h hH.b) rfl ?_
              have hget : (getK (t : Int) (ks'.map fun n : Nat => (n : Int)) (ks'.map fun b => D.sset (g' b))).getD (.sset []) = .sset (gOf ks' g' t) := by
                rw [begD_get]; unfold gOf; split <;> rfl
              rw [hget]
              repeat array_get_dec
              refine t2_orS ?_
              have push : (t ∉ ks' ∨ canon (gOf ks' g' t ++ w.out (g b) b) ≠ g' t) → ∀ (H2 : Hp), H2 = hput (hput H' bg (begD (addk t ks') (upd g' t (canon (gOf ks' g' t ++ w.out (g b) b))))) l (intsD (ls' ++ [t])) →
                  ∃ ks'' g'' ls'' ts', ds = (ts'.map fun n : Nat => D.int n) ∧ LH w sp dx bg l H H2 ks'' g'' ls'' ∧ LP w b (g b) ks'' g'' ls'' ts' ∧ ls''.length + pot ks'' g'' < n := fun hc H2 e => by
                subst e
                have hp := pot_lt (js := w.out (g b) b) ht3 (fun h => (cp.li.small t h).1) hc
                refine ⟨_, _, ls' ++ [t], ts, e5, ⟨?_, ?_, hput_self, fun c e hc he => ?_⟩, cp.grow hw, ?_⟩
                · rw [hput_ne (Ne.symm hlx), hput_ne (Ne.symm hne)]; exact hH.x
                · rw [hput_ne (Ne.symm hlb), hput_self]
                · rw [hput_ne (by rintro rfl; rw [hl] at he; cases he), hput_ne hc]; exact hH.ext c e hc he
                · rw [List.length_append]; show ls'.length + 1 + _ < n; omega
              have hks : ks'.length ≤ 3 := by
                have h1 := cp.li.nd.length_le_of_subset (l₂ := List.range w.bs.length) (fun b hb => List.mem_range.mpr (cp.li.lt b hb))
                rw [List.length_range] at h1; omega
              repeat array_get_dec
              refine t1_own rfl cls100 (by with_unfolding_all rfl) hH.x (by with_unfolding_all rfl) rfl ?_
              refine t2_notInI (.h hH.b) rfl ?_
              rw [begD_get]
              repeat array_get_dec
              refine itB (fun e => ?_) (fun e => ?_)
              · have hc : t ∉ ks' ∨ canon (gOf ks' g' t ++ w.out (g b) b) ≠ g' t := .inl fun q => by rw [if_pos q] at e; cases e
                repeat array_get_dec
                refine t1_own rfl cls100 (by with_unfolding_all rfl) hH.x (by with_unfolding_all rfl) rfl ?_
                repeat array_get_dec
                refine tU_setI hH.b rfl (by rw [List.length_map]; exact Nat.le_trans hks (by decide)) ?_
                rw [begD_put cp.li.nd]
                have hL2 : hput H' bg (begD (addk t ks') (upd g' t (canon (gOf ks' g' t ++ w.out (g b) b)))) l = some (intsD ls') := by rw [hput_ne hlb]; exact hH.l
                repeat array_get_dec
                refine tG_append hL2 ?_
                repeat array_get_dec
                refine tC_append hL2 (by rw [List.length_map]; exact Nat.le_trans (m := 100) (by omega) (by decide)) ?_
                have eL : D.lst ((ls'.map fun n : Nat => D.int n) ++ [.int t]) = intsD (ls' ++ [t]) := by simp [intsD]
                rw [eL]
                repeat array_get_dec
                obtain ⟨k1, g1, l1, t1, f1, f2, f3, f4⟩ := push hc _ rfl
                exact ⟨k1, g1, l1, t1, f1, less_of (by kernel_rfl), f2, f3, f4⟩
              · have htk : t ∈ ks' := Decidable.byContradiction fun q => by rw [if_neg q] at e; cases e
                repeat array_get_dec
                refine t1_own rfl cls100 (by with_unfolding_all rfl) hH.x (by with_unfolding_all rfl) rfl ?_
                repeat array_get_dec
                refine t2_itemI (e := .sset (g' t)) (.h hH.b) rfl (by rw [begD_get, if_pos htk]) ?_
                refine t2_neS (by sizeOf_list_dec) ?_
                repeat array_get_dec
                refine itB (fun e => ?_) (fun e => ?_)
                · have hc : t ∉ ks' ∨ canon (gOf ks' g' t ++ w.out (g b) b) ≠ g' t := .inr (by simpa using e)
                  repeat array_get_dec
                  refine t1_own rfl cls100 (by with_unfolding_all rfl) hH.x (by with_unfolding_all rfl) rfl ?_
                  repeat array_get_dec
                  refine tU_setI hH.b rfl (by rw [List.length_map]; exact Nat.le_trans hks (by decide)) ?_
                  rw [begD_put cp.li.nd]
                  have hL2 : hput H' bg (begD (addk t ks') (upd g' t (canon (gOf ks' g' t ++ w.out (g b) b)))) l = some (intsD ls') := by rw [hput_ne hlb]; exact hH.l
                  repeat array_get_dec
                  refine tG_append hL2 ?_
                  repeat array_get_dec
                  refine tC_append hL2 (by rw [List.length_map]; exact Nat.le_trans (m := 100) (by omega) (by decide)) ?_
                  have eL : D.lst ((ls'.map fun n : Nat => D.int n) ++ [.int t]) = intsD (ls' ++ [t]) := by simp [intsD]
                  rw [eL]
                  repeat array_get_dec
                  obtain ⟨k1, g1, l1, t1, f1, f2, f3, f4⟩ := push hc _ rfl
                  exact ⟨k1, g1, l1, t1, f1, less_of (by kernel_rfl), f2, f3, f4⟩
                · have hc : canon (gOf ks' g' t ++ w.out (g b) b) = g' t := by simpa using e
                  repeat array_get_dec
                  refine ⟨ks', g', ls', ts, e5, ?_, hH, cp.same hw htk hc, hlt⟩
                  exact less_of (by kernel_rfl)
        · rintro Q' d ds σ H' ⟨rfl, i, m, e3, e4, hS⟩
          cases m with
          | zero => cases e3
          | succ m =>
            rw [List.range'_succ] at e3
            injection e3 with e1 e3
            subst e1
            refine tA_loc (by with_unfolding_all rfl) (by with_unfolding_all rfl) ?_
            refine tS.less (σ' := sput (S1 (w.flow (g b) b i)) "index" (.int i)) ?_ hS.both
            have hsm := hw.flow (b := b) (c1.small b hbk) i
            have hv := hval i (by omega)
            repeat array_get_dec
            refine tG_meth rfl cls100 (by with_unfolding_all rfl) (by with_unfolding_all rfl) hH1.x (by with_unfolding_all rfl) ?_
            repeat array_get_dec
            refine tG_meth rfl cls100 (by with_unfolding_all rfl) (by with_unfolding_all rfl) hH1.x (by with_unfolding_all rfl) ?_
            repeat array_get_dec
            refine c_letOn (p := (b, i)) (by sizeOf_list_dec) hw hH1.x hsm.1 hsm.2 ((hw.pts _).mpr hv) ?_
            repeat array_get_dec
            refine c_behind (p := (b, i)) (by sizeOf_list_dec) hw hH1.x hv ?_
            repeat array_get_dec
            refine ⟨rfl, i + 1, m, e3, by omega, ?_⟩
            exact less_of (by kernel_rfl)
        · exact less_of (by kernel_rfl)
      · refine tS.less (σ' := S0) ?_ hS
        have : ls = [] := by cases ls with | nil => rfl | cons => cases e
        subst this
        have hLd := c.done
        repeat array_get_dec
        refine tG_meth rfl cls100 (by with_unfolding_all rfl) (by with_unfolding_all rfl) hH.x (by with_unfolding_all rfl) ?_
        repeat array_get_dec
        refine c_keep (by sizeOf_list_dec) hw hH.x hH.b hne c.nd c.lt c.small fun kp H3 hkx hk0 hK => ?_
        repeat array_get_dec
        refine h kp ks g H3 hkx hLd ⟨hK.x, hK.k, fun b e hb he => hK.ext b e hb ?_⟩
        by_cases q : b = bg
        · subst q; rw [hdel_self] at he; cases he
        · rw [hdel_ne q] at he ⊢; exact hH.ext b e q he
    · exact less_of (by kernel_rfl)
  · with_unfolding_all decide
end

end

noncomputable section
inductive SrI1 (S0 : Sto) (H : Hp) (ds : List D) (σ : Sto) (H' : Hp) : Prop
  | mk (i1 : H' = H) (i2 : Less S0 σ) (ss : List Step) (i3 : ds = ss.map Step.d)
inductive SrI2 (S0 : Sto) (H' : Hp) (s : Step) (ds : List D) (σ : Sto) (H'' : Hp) : Prop
  | mk (i1 : H'' = H') (i2 : Less (sput S0 "one" s.d) σ) (ss : List Step) (i3 : ds = ss.map Step.d)
section
variable {X : Cx} {A : Around} {H : Hp} {env : Env} {σ : Sto}
noncomputable def seven : List Step := [.field 0, .field 1, .deref, .index 0, .index 1, .down 0, .down 1]
theorem meets_aside (a b : Step) : meetsB a b = !asideB a b := by cases a <;> cases b <;> simp [meetsB, asideB, bne]
theorem LC_draw {α : Type} {a : Addr} {x : Str} {elt : Expr} {Q : List D → Hp → Prop} (f : α → D) {ls : List α} {ds : List D} {P : D → Prop} (e : ds = ls.map f) (hs : ∃ s : Src, H a = some s.d)
    (he : ∀ b ∈ ls, ∀ H', Drawn a H H' → tE X A env elt (sput σ x (f b)) H' (fun e H₃ => Drawn a H' H₃ ∧ P e)) (h : ∀ acc H', acc.length = ls.length → (∀ e ∈ acc, P e) → Drawn a H H' → Q acc H') :
    LC X A env x [] elt σ (fun acc H₂ => acc.length ≤ ds.length → Q acc H₂) ds [] H := by
  refine LC_ind (fun ds' acc H' => ∃ done todo, ls = done ++ todo ∧ ds' = todo.map f ∧ acc.length = done.length ∧ (∀ e ∈ acc, P e) ∧ Drawn a H H') ?_ ?_ _ _ _ ⟨[], ls, rfl, e, rfl, by simp, Drawn.refl hs⟩
  · rintro acc H' ⟨done, todo, e1, e2, e3, e4, hd⟩ _
    have : todo = [] := by cases todo with | nil => rfl | cons => cases e2
    subst this
    exact h acc H' (by rw [e3, e1]; simp) e4 hd
  · rintro d ds' acc H' ⟨done, todo, e1, e2, e3, e4, hd⟩
    cases todo with
    | nil => cases e2
    | cons b todo =>
      injection e2 with e5 e6
      subst e5
      refine tIf0 ?_
      rw [if_pos rfl]
      refine (he b (by rw [e1]; simp) H' hd).mono fun e H₃ q => ⟨done ++ [b], todo, by rw [e1]; simp, e6, by simp [e3], fun y hy => ?_, hd.trans q.1⟩
      rcases List.mem_append.mp hy with q' | q'
      · exact e4 y q'
      · rw [List.mem_singleton] at q'; rw [q']; exact q.2
theorem rows_of {P : D → Prop} {α : Type} {f : α → D} (hP : ∀ d, P d → ∃ a, d = f a) : ∀ {ds : List D}, (∀ d ∈ ds, P d) → ∃ l : List α, ds = l.map f
  | [], _ => ⟨[], rfl⟩
  | d :: ds, h => by
    obtain ⟨a, rfl⟩ := hP d (h d List.mem_cons_self)
    obtain ⟨l, rfl⟩ := rows_of (f := f) hP fun d hd => h d (List.mem_cons_of_mem _ hd)
    exact ⟨a :: l, rfl⟩
noncomputable def asideAt (r0 r1 : List Step) (i : Nat) : Bool := match r0[i]?, r1[i]? with
  | some s, some t => asideB s t
  | _, _ => false
theorem may_aside : ∀ (r0 r1 : List Step), mayB r0 r1 = ((List.range (min r0.length r1.length)).filter (asideAt r0 r1)).isEmpty
  | [], r1 => by simp [mayB]
  | s :: r0, [] => by simp [mayB]
  | s :: r0, t :: r1 => by
    have ih := may_aside r0 r1
    have e : mayB (s :: r0) (t :: r1) = (meetsB s t && mayB r0 r1) := by simp [mayB]
    rw [e, ih, meets_aside]
    have hm : min (s :: r0).length (t :: r1).length = min r0.length r1.length + 1 := by simp only [List.length_cons]; omega
    rw [hm, List.range_succ_eq_map, List.filter_cons]
    have h0 : asideAt (s :: r0) (t :: r1) 0 = asideB s t := rfl
    rw [h0, List.filter_map]
    have hc : (asideAt (s :: r0) (t :: r1) ∘ Nat.succ) = asideAt r0 r1 := by funext i; rfl
    rw [hc]
    cases asideB s t <;> simp
theorem c_steps {a : Addr} {Q : D → Hp → Prop} (hr : Room A 4) (hs : ∃ s : Src, H a = some s.d) (h : ∀ H', Drawn a H H' → Q (.bool true) H') : tC X A (.ref 209) [.raw (.ref a)] H Q := by
  refine tC_defC (X := X) (f := 209) (ds := [.raw (.ref a)]) (ho := by with_unfolding_all rfl) (by with_unfolding_all rfl) hr.lim ?_ (by with_unfolding_all rfl) (by with_unfolding_all rfl) ?_
  · intro vs hl
    revert vs; refine len1 ?_; intro v1; with_unfolding_all rfl
  · intro L e0 A0
    array_get_dec
    array_get_dec
    refine tE.mono (Q := fun d H' => H = H' ∧ d = .lst (seven.map Step.d)) ?_ ?_
    · repeat array_get_dec
      exact ⟨rfl, rfl⟩
    rintro _ _ ⟨rfl, rfl⟩
    array_get_dec
    let S0 : Sto := stoL [("source", .raw (.ref a)), ("steps", .lst (seven.map Step.d))]
    refine tS_cons (tX_For ?_ (by intro _ _; rfl) (by intro _; with_unfolding_all rfl))
    repeat array_get_dec
    refine LF_indA (SrI1 S0 H) ?_ ?_ _ _ _ ⟨rfl, ?_, seven, rfl⟩
    · rintro σ H' ⟨rfl, hS, ss, e⟩
      refine tS.less (σ' := S0) ?_ hS
      refine tS_cons (tX_Assign (tE_CompMB (by with_unfolding_all rfl) (by intro _; with_unfolding_all rfl) ?_) (by with_unfolding_all rfl) (by with_unfolding_all rfl) (by with_unfolding_all rfl))
      repeat array_get_dec
      refine tC_range ?_
      refine tIt_rng (n := 2) (by sizeOf_list_dec) (by decide) ?_
      refine ⟨Nat.le_of_ble_eq_true rfl, fun C => LC_draw (a := a) (fun i : Nat => D.int i) (P := fun d => ∃ ss : List Step, d = .lst (ss.map Step.d) ∧ ss.length ≤ 4) rfl hs ?_ ?_⟩
      · intro i _ H1 d1
        repeat array_get_dec
        refine c_take (by sizeOf_list_dec) d1.src (by decide) fun n H2 n0 n1 d2 => ?_
        obtain ⟨n, rfl⟩ := Int.eq_ofNat_of_zero_le n0
        repeat array_get_dec
        refine tC_range ?_
        refine tIt_rng (n := n) (by sizeOf_list_dec) (by omega) ?_
        refine ⟨by rw [List.length_map, List.length_range]; exact Nat.le_trans (m := 5) (by omega) (by decide), fun C => LC_draw (a := a) (fun i : Nat => D.int i) (P := fun d => ∃ s : Step, d = s.d) rfl d2.src ?_ ?_⟩
        · intro j _ H3 d3
          repeat array_get_dec
          refine c_one (by sizeOf_list_dec) d3.src ⟨Nat.le_of_ble_eq_true rfl, Nat.le_of_ble_eq_true rfl⟩ fun d H4 hd d4 => ?_
          obtain ⟨s, _, rfl⟩ := List.mem_map.mp hd
          exact ⟨d4, s, rfl⟩
        · intro acc H3 hlen hacc d3
          obtain ⟨rs, rfl⟩ := rows_of (f := Step.d) (fun _ h => h) hacc
          rw [List.length_map, List.length_range] at hlen
          exact ⟨d2.trans d3, rs, rfl, by omega⟩
      · intro acc H1 hlen hacc d1 f hf
        rw [List.length_range] at hlen
        match acc, hlen with
        | [x0, x1], _ =>
        obtain ⟨r0, rfl, l0⟩ := hacc x0 (by simp)
        obtain ⟨r1, rfl, l1⟩ := hacc x1 (by simp)
        have hfa : f ≠ a := fun q => by obtain ⟨s, hs⟩ := d1.src; rw [← q, hf] at hs; cases hs
        have hf0 : H' f = none := by
          cases q : H' f with
          | none => rfl
          | some e => have := d1.ext f e hfa q; rw [hf] at this; cases this
        have d2 : Drawn a H' (hput H1 f (.lst [.lst (r0.map Step.d), .lst (r1.map Step.d)])) := d1.put hf0 hfa
        have hF : hput H1 f (.lst [.lst (r0.map Step.d), .lst (r1.map Step.d)]) f = some (.lst [.lst (r0.map Step.d), .lst (r1.map Step.d)]) := hput_self
        generalize hput H1 f (.lst [.lst (r0.map Step.d), .lst (r1.map Step.d)]) = H2 at d2 hF ⊢
        repeat array_get_dec
        have z4 : ∀ {r : List Step}, r.length ≤ 4 → (r.map Step.d).length ≤ sizeLine := fun h => by rw [List.length_map]; exact Nat.le_trans h (by decide)
        refine tE_SliceL ?_
        repeat array_get_dec
        refine ⟨_, 2, .z, rfl, z4 l0, ?_⟩
        refine tE_SliceL ?_
        repeat array_get_dec
        refine ⟨_, 1, .z, rfl, z4 l1, ?_⟩
        rw [← List.map_take, ← List.map_take]
        refine t2_addL .z .z (by rw [List.length_map, List.length_map, List.length_take, List.length_take]; exact Nat.le_trans (m := 8) (by omega) (by decide)) ?_
        rw [← List.map_append]
        repeat array_get_dec
        refine tE_SliceL ?_
        repeat array_get_dec
        refine ⟨_, 1, .z, rfl, z4 l1, ?_⟩
        rw [← List.map_take]
        refine t2_addL .z .z (by rw [List.length_map, List.length_map, List.length_take]; exact Nat.le_trans (m := 8) (by omega) (by decide)) ?_
        rw [← List.map_append]
        repeat array_get_dec
        refine c_one (by sizeOf_list_dec) d2.src ⟨Nat.le_of_ble_eq_true rfl, Nat.le_of_ble_eq_true rfl⟩ fun d H3 hd d3 => ?_
        have hd : ∃ r2 : List Step, r2.length ≤ 5 ∧ d = .lst (r2.map Step.d) := by
          simp only [List.mem_cons, List.not_mem_nil, or_false] at hd
          rcases hd with rfl | rfl | rfl
          · exact ⟨r1, by omega, rfl⟩
          · exact ⟨_, by rw [List.length_append, List.length_take, List.length_take]; omega, rfl⟩
          · exact ⟨_, by rw [List.length_append, List.length_take]; omega, rfl⟩
        obtain ⟨r2, l2, rfl⟩ := hd
        have hF3 := d3.ext f _ hfa hF
        repeat array_get_dec
        refine tU_setL (k := 1) hF3 rfl (Nat.le_of_ble_eq_true rfl) (Nat.le_of_ble_eq_true rfl) ?_
        have d4 : Drawn a H' (hput H3 f (.lst ([.lst (r0.map Step.d), .lst (r1.map Step.d)].set 1 (.lst (r2.map Step.d))))) := (d2.trans d3).put hf0 hfa
        have hF4 : hput H3 f (.lst ([.lst (r0.map Step.d), .lst (r1.map Step.d)].set 1 (.lst (r2.map Step.d)))) f = some (.lst [.lst (r0.map Step.d), .lst (r2.map Step.d)]) := hput_self
        generalize hput H3 f (.lst ([.lst (r0.map Step.d), .lst (r1.map Step.d)].set 1 (.lst (r2.map Step.d)))) = H4 at d4 hF4 ⊢
        have q0 : (r0.map Step.d).length < 2 ^ 62 := by rw [List.length_map]; omega
        have q2 : (r2.map Step.d).length < 2 ^ 62 := by rw [List.length_map]; omega
        repeat array_get_dec
        refine tX_AssignCompB (by with_unfolding_all rfl) (by with_unfolding_all rfl) (by with_unfolding_all rfl) (by intro _; with_unfolding_all rfl) (by with_unfolding_all rfl) ?_
        repeat array_get_dec
        refine tC_min (by sizeOf_list_dec) ?_
        repeat array_get_dec
        refine tC_range ?_
        have hmin : (if ((r2.map Step.d).length : Int) < (r0.map Step.d).length then ((r2.map Step.d).length : Int) else (r0.map Step.d).length) = ((min r0.length r2.length : Nat) : Int) := by
          rw [List.length_map, List.length_map]; split <;> omega
        rw [hmin]
        refine tIt_rng (n := min r0.length r2.length) (by sizeOf_list_dec) (by omega) ?_
        refine ⟨by rw [List.length_map, List.length_range]; exact Nat.le_trans (m := 5) (by omega) (by decide), fun C => LC_pure (fun i : Nat => D.int i) (asideAt r0 r2) (fun i : Nat => D.int i) rfl ?_ ?_ ?_⟩
        · intro i hi
          have hi := List.mem_range.mp hi
          have e0 : (r0.map Step.d)[((i : Nat) : Int).toNat]? = some (r0[i]'(by omega)).d := by rw [Int.toNat_natCast, List.getElem?_map, List.getElem?_eq_getElem (by omega)]; rfl
          have e2 : (r2.map Step.d)[((i : Nat) : Int).toNat]? = some (r2[i]'(by omega)).d := by rw [Int.toNat_natCast, List.getElem?_map, List.getElem?_eq_getElem (by omega)]; rfl
          repeat array_get_dec
          refine t2_itemL (k := i) .z rfl (by omega) (by omega) e0 ?_
          repeat array_get_dec
          refine t2_itemL (k := i) .z rfl (by omega) (by omega) e2 ?_
          repeat array_get_dec
          refine ⟨rfl, ?_⟩
          unfold asideAt
          rw [List.getElem?_eq_getElem (by omega), List.getElem?_eq_getElem (by omega)]
        · intro i hi e
          repeat array_get_dec
          exact ⟨rfl, rfl⟩
        · intro hlen
          repeat array_get_dec
          refine tC_tuple (by rw [List.length_map]; exact Nat.le_trans l0 (by decide)) ?_
          repeat array_get_dec
          refine tC_tuple (by rw [List.length_map]; exact Nat.le_trans l2 (by decide)) ?_
          repeat array_get_dec
          refine t2_nilEq .z (flat_ints _) (by sizeOf_list_dec) ?_
          repeat array_get_dec
          have : PyData.eqv (.bool (mayB r0 r2)) (.bool (((List.range (min r0.length r2.length)).filter (asideAt r0 r2)).map fun i : Nat => D.int i).isEmpty) = true := by
            rw [may_aside, List.isEmpty_map]
            cases ((List.range (min r0.length r2.length)).filter (asideAt r0 r2)).isEmpty <;> rfl
          rw [this]
          exact h H4 d4
    · rintro Q' d ds σ H' ⟨rfl, hS, ss, e⟩
      cases ss with
      | nil => cases e
      | cons s ss =>
        injection e with e1 e2
        subst e1
        refine tA_loc (by with_unfolding_all rfl) (by with_unfolding_all rfl) ?_
        refine tS.less (σ' := sput S0 "one" s.d) ?_ hS.both
        refine tS_cons (tX_For ?_ (by intro _ _; rfl) (by intro _; with_unfolding_all rfl))
        repeat array_get_dec
        refine LF_indA (SrI2 S0 H' s) ?_ ?_ _ _ _ ⟨rfl, Less.refl _, seven, rfl⟩
        · rintro σ H'' ⟨rfl, hS, ss', e⟩
          refine tS_nil ⟨rfl, ?_, ss, e2⟩
          exact (less_of (by kernel_rfl) : Less S0 (sput S0 "one" s.d)).trans hS
        · rintro Q' d ds σ H'' ⟨rfl, hS, ss', e⟩
          cases ss' with
          | nil => cases e
          | cons t ss' =>
            injection e with e1 e2
            subst e1
            refine tA_loc (by with_unfolding_all rfl) (by with_unfolding_all rfl) ?_
            refine tS.less (σ' := sput (sput S0 "one" s.d) "other" t.d) ?_ hS.both
            repeat array_get_dec
            have : PyData.eqv (.bool (meetsB s t)) (.bool (asideB s t)) = false := by
              rw [meets_aside]; cases asideB s t <;> rfl
            rw [this]
            repeat array_get_dec
            refine ⟨rfl, ?_, ss', e2⟩
            exact (Less.refl _).put (by with_unfolding_all rfl)
    · exact less_of (by kernel_rfl)
end

end

noncomputable section
noncomputable def allPts (bs : List Bk) : List Pt := (List.range bs.length).flatMap fun b => (List.range (blen bs b + 1)).map fun i => (b, i)
theorem mem_allPts {bs : List Bk} {p : Pt} : p ∈ allPts bs ↔ Valid bs p := by
  unfold allPts
  rw [List.mem_flatMap]
  constructor
  · rintro ⟨b, hb, h⟩
    obtain ⟨i, hi, rfl⟩ := List.mem_map.mp h
    have hb := List.mem_range.mp hb
    have hi := List.mem_range.mp hi
    have hk : bs[b]? = some bs[b] := List.getElem?_eq_getElem hb
    rw [blen_of hk] at hi
    exact ⟨_, hk, Nat.le_of_lt_succ hi⟩
  · rintro ⟨k, hk, hi⟩
    obtain ⟨b, i⟩ := p
    have hk : bs[b]? = some k := hk
    refine ⟨b, List.mem_range.mpr (List.getElem?_eq_some_iff.mp hk).1, List.mem_map.mpr ⟨i, List.mem_range.mpr ?_, rfl⟩⟩
    rw [blen_of hk]; exact Nat.lt_succ_of_le hi
theorem nodup_pts (f : Nat → Nat) : ∀ l : List Nat, l.Nodup → (l.flatMap fun b => (List.range (f b)).map fun i => (b, i)).Nodup
  | [], _ => by simp
  | b :: l, h => by
    obtain ⟨h1, h2⟩ := List.nodup_cons.mp h
    rw [List.flatMap_cons, List.nodup_append]
    refine ⟨?_, nodup_pts f l h2, ?_⟩
    · rw [List.nodup_iff_pairwise_ne, List.pairwise_map]
      exact (List.nodup_iff_pairwise_ne.mp List.nodup_range).imp fun {a b} hab e => hab (by injection e)
    · intro x hx y hy e
      obtain ⟨i, _, rfl⟩ := List.mem_map.mp hx
      obtain ⟨c, hc, hy⟩ := List.mem_flatMap.mp hy
      obtain ⟨j, _, rfl⟩ := List.mem_map.mp hy
      injection e with e1 _
      subst e1
      exact h1 hc
theorem nodup_allPts (bs : List Bk) : (allPts bs).Nodup := nodup_pts (fun b => blen bs b + 1) _ List.nodup_range
theorem allPts_len {bs : List Bk} (h : BsOk bs) : (allPts bs).length ≤ 12 := by
  have := (nodup_allPts bs).length_le_of_subset (l₂ := grid) fun p hp => (mem_allPts.mp hp).grid h
  exact Nat.le_trans this (by decide)
noncomputable def numOf (pts : List Pt) (p : Pt) : Int := 3 * (pts.idxOf p : Int) + 1
theorem numOf_inj {pts : List Pt} {p q : Pt} (hp : p ∈ pts) (hq : q ∈ pts) (h : numOf pts p = numOf pts q) : p = q := by
  unfold numOf at h
  have e : pts.idxOf p = pts.idxOf q := by omega
  have h1 := List.getElem_idxOf (List.idxOf_lt_length_of_mem hp)
  have h2 := List.getElem_idxOf (List.idxOf_lt_length_of_mem hq)
  rw [← h1, ← h2]
  simp only [e]
theorem numOf_at {pts : List Pt} (hn : pts.Nodup) {l r : List Pt} {p : Pt} (e : pts = l ++ p :: r) : numOf pts p = 3 * (l.length : Int) + 1 := by
  unfold numOf
  have : pts.idxOf p = l.length := by
    rw [e, List.idxOf_append, if_neg, List.idxOf_cons_self, Nat.zero_add]
    intro h
    rw [e, List.nodup_append] at hn
    exact hn.2.2 p h p (by simp) rfl
  rw [this]
noncomputable def lookR (r : Int) : List (Int × List Pt) → Option (List Pt)
  | [] => none
  | x :: l => if x.1 = r then some x.2 else lookR r l
theorem lookR_mem {r : Int} {ps : List Pt} : ∀ {l : List (Int × List Pt)}, lookR r l = some ps → (r, ps) ∈ l
  | [], h => by cases h
  | x :: l, h => by
    unfold lookR at h; split at h
    · rename_i e; cases h; rw [← e]; exact List.mem_cons_self
    · exact List.mem_cons_of_mem _ (lookR_mem h)
theorem getK_look (F : List Pt → D) (r : Int) : ∀ l : List (Int × List Pt), getK r (l.map (·.1)) (l.map fun x => F x.2) = (lookR r l).map F
  | [] => rfl
  | x :: l => by
    simp only [List.map_cons, getK, lookR]
    split
    · rfl
    · exact getK_look F r l
theorem putK_fresh {κ : Type} [DecidableEq κ] (k : κ) (d : D) : ∀ (ks : List κ) (ds : List D), ks.length = ds.length → k ∉ ks → putK k d ks ds = (ks ++ [k], ds ++ [d])
  | [], [], _, _ => rfl
  | a :: ks, e :: ds, hl, h => by
    simp only [List.mem_cons, not_or] at h
    simp only [putK]
    rw [if_neg (fun q => h.1 q.symm), putK_fresh k d ks ds (by simpa using hl) h.2]
    rfl
noncomputable def lends (bs : List Bk) : List Pt := (allPts bs).filter fun p => decide (p.2 < blen bs p.1)
noncomputable def mkSc (bs : List Bk) (ls : List Loan) (hl : List (Int × List Pt)) : Sc where
  bs := bs
  ls := ls
  pts := allPts bs
  num := numOf (allPts bs)
  held := fun r => lookR r hl
  vks := hl.map (·.1)
  vds := hl.map fun x => .fset (x.2.map (numOf (allPts bs)))
  nks := (allPts bs).map keyP
  nds := (allPts bs).map fun p => .int (numOf (allPts bs) p)
structure LoanIn (bs : List Bk) (l : Loan) : Prop where
  st : l.p.st.length ≤ 1000
  at' : (l.b, l.i) ∈ lends bs
structure LsOk (bs : List Bk) (ls : List Loan) : Prop where
  len : ls.length ≤ 3
  nth : ∀ (i : Nat) (l : Loan), ls[i]? = some l → l.n = i
  ok : ∀ l ∈ ls, LoanIn bs l
theorem LsOk.n {bs : List Bk} {ls : List Loan} (h : LsOk bs ls) {l : Loan} (hl : l ∈ ls) : l.n < ls.length := by
  obtain ⟨i, hi⟩ := List.getElem?_of_mem hl
  rw [h.nth i l hi]; exact (List.getElem?_eq_some_iff.mp hi).1
theorem mkSc_ok {bs : List Bk} {ls : List Loan} {hl : List (Int × List Pt)} (hb : BsOk bs) (h : LsOk bs ls) (hh : ∀ x ∈ hl, ∀ p ∈ x.2, p ∈ allPts bs) : (mkSc bs ls hl).Ok where
  bs := hb
  ls := fun l hl => ⟨by have := h.n hl; have := h.len; omega, (h.ok l hl).st⟩
  len := h.len
  nth := h.nth
  pts := fun p => mem_allPts
  inj := fun p hp q hq e => numOf_inj hp hq e
  nget := fun p hp => by
    show getK (keyP p) ((allPts bs).map keyP) ((allPts bs).map fun p => .int (numOf (allPts bs) p)) = _
    rw [getK_map (fun _ _ => keyP_inj) (fun p => D.int (numOf (allPts bs) p)), if_pos (show p ∈ allPts bs from hp)]; rfl
  vget := fun r => getK_look (fun ps => D.fset (ps.map (numOf (allPts bs)))) r hl
  hsub := fun r l e p hp => hh _ (lookR_mem e) p hp
  lv := fun l hl => by
    obtain ⟨h1, h2⟩ := List.mem_filter.mp (h.ok l hl).at'
    obtain ⟨k, hk, _⟩ := mem_allPts.mp h1
    have hk : bs[l.b]? = some k := hk
    have h2 : l.i < blen bs l.b := of_decide_eq_true h2
    rw [blen_of hk] at h2
    exact ⟨k, hk, h2⟩
/-- the ways of the loans, as the law lists them -/
structure WsOk (w : Sc) (ws : List (List Pt)) : Prop where
  len : ws.length = w.ls.length
  way : ∀ (n : Nat) (ps : List Pt), ws[n]? = some ps → ∀ p, p ∈ ps ↔ w.way n p
noncomputable def wsAt (ws : List (List Pt)) (n : Nat) : List Pt := (ws[n]?).getD []
theorem WsOk.at' {w : Sc} {ws : List (List Pt)} (h : WsOk w ws) {n : Nat} {l : Loan} (hl : w.ls[n]? = some l) (p : Pt) : p ∈ wsAt ws n ↔ w.way n p := by
  have hn : n < ws.length := by rw [h.len]; exact (List.getElem?_eq_some_iff.mp hl).1
  unfold wsAt
  rw [List.getElem?_eq_getElem hn]
  exact h.way n _ (List.getElem?_eq_getElem hn) p
noncomputable def begB (w : Sc) (ws : List (List Pt)) (b : Nat) : List Nat := canon ((w.ls.filter fun l => decide ((b, 0) ∈ wsAt ws l.n)).map Loan.n)
noncomputable def keptB (w : Sc) (ws : List (List Pt)) (p : Pt) : List Nat := canon ((w.ls.filter fun l => decide (p ∈ wsAt ws l.n) && decide (p ∈ w.heldL l.r)).map Loan.n)
theorem begB_eq {w : Sc} {ws : List (List Pt)} {ks : List Nat} {g : Nat → List Nat} (hw : w.Ok) (h : WsOk w ws) (c : LeadOk w ks g) {b : Nat} (hb : b ∈ ks) : g b = begB w ws b := by
  refine subs3_ext (c.small b hb).1 (canon_sub _) fun n => ?_
  have hv : Valid w.bs (b, 0) := ⟨_, List.getElem?_eq_getElem (c.lt b hb), Nat.zero_le _⟩
  have h1 : n ∈ g b ↔ w.way n (b, 0) := c.flow_iff hw hv hb n
  rw [h1]
  unfold begB
  rw [hw.mem_killed]
  constructor
  · rintro hway
    obtain ⟨l, hl, _⟩ := id hway
    refine ⟨l, hl, ?_⟩
    rw [hw.nth n l hl]
    exact decide_eq_true ((h.at' hl _).mpr hway)
  · rintro ⟨l, hl, e⟩
    rw [hw.nth n l hl] at e
    exact (h.at' hl _).mp (of_decide_eq_true e)
theorem keptB_eq {w : Sc} {ws : List (List Pt)} {ks : List Nat} {g : Nat → List Nat} (hw : w.Ok) (h : WsOk w ws) (c : LeadOk w ks g) {p : Pt} (hv : Valid w.bs p) (hb : p.1 ∈ ks) : w.keptAt g p = keptB w ws p := by
  have hsm := hw.flow (b := p.1) (c.small _ hb) p.2
  refine subs3_ext (canon_sub _) (canon_sub _) fun n => ?_
  have h1 : n ∈ w.keptAt g p ↔ n ∈ w.flow (g p.1) p.1 p.2 ∧ ∃ l, w.ls[n]? = some l ∧ p ∈ w.heldL l.r := hw.mem_letOn hsm
  have h2 : n ∈ keptB w ws p ↔ ∃ l, w.ls[n]? = some l ∧ (decide (p ∈ wsAt ws l.n) && decide (p ∈ w.heldL l.r)) = true := hw.mem_killed (fun l => decide (p ∈ wsAt ws l.n) && decide (p ∈ w.heldL l.r))
  rw [h1, h2, c.flow_iff hw hv hb n]
  constructor
  · rintro ⟨hway, l, hl, hh⟩
    refine ⟨l, hl, ?_⟩
    rw [hw.nth n l hl]
    simp only [Bool.and_eq_true, decide_eq_true_eq]
    exact ⟨(h.at' hl _).mpr hway, hh⟩
  · rintro ⟨l, hl, e⟩
    rw [hw.nth n l hl] at e
    simp only [Bool.and_eq_true, decide_eq_true_eq] at e
    exact ⟨(h.at' hl _).mp e.1, l, hl, e.2⟩
theorem same_len {α : Type} [DecidableEq α] {l m : List α} (hl : l.Nodup) (hm : m.Nodup) (h : ∀ a, a ∈ l ↔ a ∈ m) : l.length = m.length :=
  Nat.le_antisymm (hl.length_le_of_subset fun a ha => (h a).mp ha) (hm.length_le_of_subset fun a ha => (h a).mpr ha)
theorem mem_ptsOf {w : Sc} (hw : w.Ok) {ks : List Nat} (hk : ∀ b ∈ ks, b < w.bs.length) {p : Pt} : p ∈ w.ptsOf ks ↔ Valid w.bs p ∧ p.1 ∈ ks := by
  unfold Sc.ptsOf
  rw [List.mem_flatMap]
  constructor
  · rintro ⟨b, hb, h⟩
    obtain ⟨i, hi, rfl⟩ := List.mem_map.mp h
    have hi := List.mem_range.mp hi
    have hbl := hk b hb
    have e : w.bs[b]? = some w.bs[b] := List.getElem?_eq_getElem hbl
    rw [blen_of e] at hi
    exact ⟨⟨_, e, Nat.le_of_lt_succ hi⟩, hb⟩
  · rintro ⟨⟨k, e, hi⟩, hb⟩
    obtain ⟨b, i⟩ := p
    have e : w.bs[b]? = some k := e
    refine ⟨b, hb, List.mem_map.mpr ⟨i, List.mem_range.mpr ?_, rfl⟩⟩
    rw [blen_of e]; exact Nat.lt_succ_of_le hi
theorem nodup_ptsOf (w : Sc) {ks : List Nat} (h : ks.Nodup) : (w.ptsOf ks).Nodup := nodup_pts (fun b => blen w.bs b + 1) ks h
/-- a point, or none -/
noncomputable def optD : Option Pt → D
  | none => .none
  | some p => ptD p
noncomputable def optPy : Option Pt → PyData
  | none => .none
  | some p => ptPy p
theorem opts_py : ∀ l : List (Option Pt), pyAll (l.map optD) = some (l.map optPy)
  | [] => rfl
  | none :: l => by simp only [List.map_cons, pyAll, opts_py l]; rfl
  | some a :: l => by simp only [List.map_cons, pyAll, opts_py l]; rfl
theorem opts_lay : ∀ l : List (Option Pt), PyData.canLayAll0 (l.map optPy) = true
  | [] => rfl
  | none :: l => by show (_ && _) = true; rw [opts_lay l]; rfl
  | some a :: l => by show (_ && _) = true; rw [opts_lay l]; rfl
theorem LC2_pure {X : Cx} {A : Around} {H : Hp} {env : Env} {σ : Sto} {x y : Str} {it2 elt : Expr} {Q : List D → Hp → Prop} {α β : Type} (f : α → D) (u : β → D) (g : α → List β) (v : α → β → D) (N : Nat) (hN : N ≤ sizeLine) :
    ∀ (ls : List α) (acc : List D), acc.length + (ls.flatMap g).length ≤ N →
    (∀ a ∈ ls, tE X A env it2 (sput σ x (f a)) H (fun d2 H₂ => H₂ = H ∧ ∀ G : List D → Prop, G ((g a).map u) → tIt X A d2 H G)) →
    (∀ a ∈ ls, ∀ b ∈ g a, tE X A env elt (sput (sput σ x (f a)) y (u b)) H (fun e H₃ => H₃ = H ∧ e = v a b)) →
    Q (acc ++ ls.flatMap fun a => (g a).map (v a)) H → LC2 X A env x y it2 elt σ Q (ls.map f) acc H
  | [], acc, hz, _, _, h => by simpa [LC2] using h
  | a :: ls, acc, hz, hi, he, h => by
    rw [List.flatMap_cons, List.length_append] at hz
    refine (hi a List.mem_cons_self).mono fun d2 H₂ q => ?_
    obtain ⟨rfl, q⟩ := q
    refine q _ ⟨by rw [List.length_map]; omega, ?_⟩
    have key : ∀ (bs : List β) (acc' : List D), (∀ b ∈ bs, b ∈ g a) → ∀ R : List D → Hp → Prop, R (acc' ++ bs.map (v a)) H₂ → LC X A env y [] elt (sput σ x (f a)) R (bs.map u) acc' H₂ := by
      intro bs
      induction bs with
      | nil => intro acc' _ R hR; simpa [LC] using hR
      | cons b bs ih =>
        intro acc' hb R hR
        refine tIf0 ?_
        rw [if_pos rfl]
        refine (he a List.mem_cons_self b (hb b List.mem_cons_self)).mono fun e H₃ q => ?_
        obtain ⟨rfl, rfl⟩ := q
        exact ih _ (fun b' hb' => hb b' (List.mem_cons_of_mem _ hb')) R (by simpa using hR)
    refine key (g a) acc (fun _ h => h) _ ?_
    refine LC2_pure f u g v N hN ls _ ?_ (fun a ha => hi a (List.mem_cons_of_mem _ ha)) (fun a ha => he a (List.mem_cons_of_mem _ ha)) ?_
    · rw [List.length_append, List.length_map]; omega
    · rw [List.flatMap_cons] at h; simpa using h

end

noncomputable section
structure GoodSt where
  s : St
  ok : s.Ok
theorem unwrap_st : ∀ l : List GoodSt, l.map (fun g => g.s.d) = (l.map GoodSt.s).map St.d := fun l => by rw [List.map_map]; rfl
inductive ScI1 (S0 : Sto) (N : Nat) (f : Addr) (a : Addr) (H1 : Hp) (ds : List D) (σ : Sto) (H' : Hp) : Prop
  | mk (h1 : Less S0 σ) (i m : Nat) (bs : List Bk) (h2 : ds = (List.range' i m).map (fun i : Nat => D.int i)) (h3 : i + m = N) (h4 : bs.length = i) (h5 : (∀ k ∈ bs, k.Ok N)) (h6 : H' f = some (.lst (bs.map Bk.d))) (h7 : Drawn a H1 H')
inductive ScI2 (S3 : Sto) (pts : List Pt) (f2 : Addr) (a : Addr) (H3 : Hp) (ds : List D) (σ : Sto) (H' : Hp) : Prop
  | mk (h1 : Less S3 σ) (done todo : List Pt) (h2 : pts = done ++ todo) (h3 : ds = (List.range' done.length todo.length).map (fun i : Nat => D.int i)) (h4 : H' f2 = some (.tdict (done.map keyP) (done.map fun p => .int (numOf pts p)))) (h5 : Drawn a H3 H')
inductive ScI3 (S5 : Sto) (f3 : Addr) (pts : List Pt) (a : Addr) (H7 : Hp) (ds : List D) (σ : Sto) (H' : Hp) : Prop
  | mk (h1 : Less S5 σ) (done : List (Int × List Pt)) (todo : List Int) (h2 : done.map (·.1) ++ todo = [1, 2, 5]) (h3 : ds = todo.map .int) (h4 : (∀ x ∈ done, (∀ p ∈ x.2, p ∈ pts) ∧ x.2.length ≤ 12)) (h5 : H' f3 = some (.idict (done.map (·.1)) (done.map fun x => ptsD x.2))) (h6 : Drawn a H7 H')
inductive ScI4 (S7 : Sto) (bs : List Bk) (f4 : Addr) (a : Addr) (H10 : Hp) (M : Nat) (ds : List D) (σ : Sto) (H' : Hp) : Prop
  | mk (h1 : Less S7 σ) (m : Nat) (ls : List Loan) (h2 : ds = (List.range' ls.length m).map (fun i : Nat => D.int i)) (h3 : ls.length + m = M) (h4 : LsOk bs ls) (h5 : H' f4 = some (.lst (ls.map Loan.d))) (h6 : Drawn a H10 H')
inductive ScI5 (S9 : Sto) (hl : List (Int × List Pt)) (f5 : Addr) (pts : List Pt) (ds : List D) (σ : Sto) (H' : Hp) : Prop
  | mk (h1 : Less S9 σ) (done todo : List (Int × List Pt)) (h2 : hl = done ++ todo) (h3 : ds = (todo.map (·.1)).map .int) (h4 : H' f5 = some (.idict (done.map (·.1)) (done.map fun x => .fset (x.2.map (numOf pts)))))
inductive ScI6 (Sc' : Sto) (ls : List Loan) (w : Sc) (f6 : Addr) (H19 : Hp) (ds : List D) (σ : Sto) (H' : Hp) : Prop
  | mk (h1 : Less Sc' σ) (done todo : List Loan) (ws : List (List Pt)) (h2 : ls = done ++ todo) (h3 : ds = todo.map Loan.d) (h4 : ws.length = done.length) (h5 : (∀ (n : Nat) (ps : List Pt), ws[n]? = some ps → ∀ p, p ∈ ps ↔ w.way n p)) (h6 : H' f6 = some (.lst (ws.map ptsD))) (h7 : Ext H19 H')
inductive ScI7 (Se : Sto) (fs : List Nat) (f7 : Addr) (f8 : Addr) (kp : Addr) (dx : Addr) (w : Sc) (ws : List (List Pt)) (ks : List Nat) (g : Nat → List Nat) (sp : Addr) (ds : List D) (σ : Sto) (H' : Hp) : Prop
  | mk (h1 : Less Se σ) (done todo : List Nat) (h2 : fs = done ++ todo) (h3 : ds = (todo.map fun n : Nat => D.int n)) (h4 : H' f7 = some (begD done (begB w ws))) (h5 : H' f8 = some (.tdict [] [])) (h6 : H' kp = some (w.keptD g (w.ptsOf ks))) (h7 : H' dx = some (.ns scN (w.ds sp (begD ks g) (.raw (.ref kp)))))
inductive ScI8 (Se : Sto) (bs : List Bk) (fs : List Nat) (f7 : Addr) (f8 : Addr) (kp : Addr) (dx : Addr) (w : Sc) (ws : List (List Pt)) (ks : List Nat) (g : Nat → List Nat) (sp : Addr) (ds : List D) (σ : Sto) (H' : Hp) : Prop
  | mk (h1 : Less Se σ) (pd todo : List Pt) (h2 : allPts bs = pd ++ todo) (h3 : ds = todo.map ptD) (h4 : H' f7 = some (begD fs (begB w ws))) (h5 : H' f8 = some (.tdict ((pd.filter fun p => decide (p.1 ∈ fs)).map keyP) ((pd.filter fun p => decide (p.1 ∈ fs)).map fun p => .sset (keptB w ws p)))) (h6 : H' kp = some (w.keptD g (w.ptsOf ks))) (h7 : H' dx = some (.ns scN (w.ds sp (begD ks g) (.raw (.ref kp)))))
section
variable {X : Cx} {A : Around} {H : Hp} {env : Env} {σ : Sto}
theorem c_scopes {a : Addr} {Q : D → Hp → Prop} (hr : Room A 7) (hs : ∃ s : Src, H a = some s.d) (h : ∀ H', Q (.bool true) H') : tC X A (.ref 266) [.raw (.ref a)] H Q := by
  refine tC_defC (X := X) (f := 266) (ds := [.raw (.ref a)]) (ho := by with_unfolding_all rfl) (by with_unfolding_all rfl) hr.lim ?_ (by with_unfolding_all rfl) (by with_unfolding_all rfl) ?_
  · intro vs hl
    revert vs; refine len1 ?_; intro v1; with_unfolding_all rfl
  · intro L e0 A0
    refine tS_cons (tX_Assign (tE.mono (Q := fun d H' => ∃ N : Nat, d = .int N ∧ 0 < N ∧ N < 4 ∧ Drawn a H H') ?_ ?_) (by with_unfolding_all rfl) (by with_unfolding_all rfl) (by with_unfolding_all rfl))
    · repeat array_get_dec
      refine c_take (by sizeOf_list_dec) hs (by decide) fun i H1 i0 i1 d1 => ?_
      obtain ⟨i, rfl⟩ := Int.eq_ofNat_of_zero_le i0
      repeat array_get_dec
      exact ⟨1 + i, rfl, by omega, by omega, d1⟩
    rintro _ H1 ⟨N, rfl, hN0, hN4, d1⟩
    array_get_dec
    refine tS_cons (tX_Assign (tE_ListM (by with_unfolding_all rfl) ?_) (by with_unfolding_all rfl) (by with_unfolding_all rfl) (by with_unfolding_all rfl))
    repeat array_get_dec
    intro f hf
    have hfa : f ≠ a := fun q => by obtain ⟨s, hs⟩ := d1.src; rw [← q, hf] at hs; cases hs
    have d2 : Drawn a H1 (hput H1 f (.lst [])) := (Drawn.refl d1.src).put hf hfa
    have hF2 : hput H1 f (.lst []) f = some (.lst []) := hput_self
    generalize hput H1 f (.lst []) = H2 at d2 hF2 ⊢
    array_get_dec
    refine tS_cons (tX_For ?_ (by intro _ _; rfl) (by intro _; with_unfolding_all rfl))
    repeat array_get_dec
    refine tC_range ?_
    refine tIt_rng (n := N) (by sizeOf_list_dec) (by omega) ?_
    let S0 : Sto := stoL [("source", .raw (.ref a)), ("many", .int N), ("blocks", .raw (.ref f))]
    refine LF_indA (ScI1 S0 N f a H1) ?_ ?_ _ _ _
      ⟨?_, 0, N, [], by rw [List.range_eq_range'], by omega, rfl, by simp, hF2, d2⟩
    · rintro σ H' ⟨hS, i, m, bs, e3, e4, hbl, hbk, hF, d3⟩
      have : m = 0 := by cases m with | zero => rfl | succ => cases e3
      subst this
      have hi : i = N := by omega
      subst hi
      have hB : BsOk bs := ⟨by omega, by omega, fun k hk => by rw [hbl]; exact hbk k hk⟩
      refine tS.less (σ' := S0) ?_ hS
      refine tS_freeze (x := "blocks") (by with_unfolding_all rfl) hF ?_
      have d4 : Drawn a H (hdel H' f) := d1.trans (d3.del hf hfa)
      generalize hdel H' f = H3 at d4 ⊢
      let S1 : Sto := stoL [("source", .raw (.ref a)), ("many", .int i), ("blocks", .lst (bs.map Bk.d))]
      refine tS.less (σ' := S1) ?_ (less_of (by kernel_rfl))
      have l62 : ∀ b (k : Bk), bs[b]? = some k → (k.ss.map St.d).length < 2 ^ 62 := fun b k hk => by
        have := (hB.ok k (List.mem_of_getElem? hk)).len
        rw [List.length_map]; omega
      refine tS_cons (tX_Assign (tE_Comp2 (by with_unfolding_all rfl) (by with_unfolding_all rfl) (by intro _; with_unfolding_all rfl) (by intro _ _; with_unfolding_all rfl) ?_) (by with_unfolding_all rfl) (by with_unfolding_all rfl) (by with_unfolding_all rfl))
      repeat array_get_dec
      refine tC_range ?_
      refine tIt_rng (n := i) (by sizeOf_list_dec) (by omega) fun C => ?_
      rw [← hbl]
      refine LC2_pure (fun b : Nat => D.int b) (fun i : Nat => D.int i) (fun b => List.range (blen bs b + 1)) (fun b i => ptD (b, i)) 100 (by decide) (List.range bs.length) [] ?_ ?_ ?_ ?_
      · have e : (List.range bs.length).flatMap (fun b => List.range (blen bs b + 1)) = (allPts bs).map (·.2) := by
          unfold allPts; rw [List.map_flatMap]; congr 1; funext b; rw [List.map_map]; exact (List.map_id _).symm
        rw [e, List.length_map]; have := allPts_len hB; simp; omega
      · intro b hb
        have hb := List.mem_range.mp hb
        have hk : bs[b]? = some bs[b] := List.getElem?_eq_getElem hb
        have hkb : (bs.map Bk.d)[((b : Nat) : Int).toNat]? = some (bs[b].d) := by rw [Int.toNat_natCast, List.getElem?_map, hk]; rfl
        have l1 := l62 b _ hk
        repeat array_get_dec
        refine t2_itemL (k := b) .z rfl (by omega) (by omega) hkb ?_
        repeat array_get_dec
        refine t2_itemL (k := 0) .z rfl (by decide) (by decide) rfl ?_
        repeat array_get_dec
        refine tC_range ?_
        refine ⟨rfl, fun G hG => ?_⟩
        have hrn : ((bs[b].ss.map St.d).length : Int) + 1 = ((blen bs b + 1 : Nat) : Int) := by rw [blen_of hk, List.length_map]; rfl
        rw [hrn]
        exact tIt_rng (n := blen bs b + 1) (by sizeOf_list_dec) (by have := blen_lt hB b; omega) hG
      · intro b hb j hj
        repeat array_get_dec
        exact ⟨rfl, rfl⟩
      have ep : ([] : List D) ++ (List.range bs.length).flatMap (fun b => (List.range (blen bs b + 1)).map fun i => ptD (b, i)) = (allPts bs).map ptD := by
        unfold allPts; rw [List.map_flatMap]; simp [List.map_map, Function.comp_def]
      rw [ep]
      obtain ⟨pts, hpts⟩ : ∃ pts, pts = allPts bs := ⟨_, rfl⟩
      rw [← hpts]
      have hnd : pts.Nodup := hpts ▸ nodup_allPts bs
      have hpl : pts.length ≤ 12 := hpts ▸ allPts_len hB
      have hmem : ∀ p, p ∈ pts ↔ Valid bs p := fun p => by rw [hpts]; exact mem_allPts
      array_get_dec
      let S2 : Sto := stoL [("source", .raw (.ref a)), ("blocks", .lst (bs.map Bk.d)), ("points_here", .lst (pts.map ptD))]
      have l2 : (pts.map ptD).length < 2 ^ 62 := by rw [List.length_map]; omega
      have hptz : (pts.map ptD).length ≤ sizeLine := by rw [List.length_map]; exact Nat.le_trans hpl (by decide)
      refine tS.less (σ' := S2) ?_ (less_of (by kernel_rfl))
      clear S1 ep C
      refine tS_cons (tX_Assign (tE_Dict0K ?_) (by with_unfolding_all rfl) (by with_unfolding_all rfl) (by with_unfolding_all rfl))
      intro f2 hf2
      have hf2a : f2 ≠ a := fun q => by obtain ⟨s, hs⟩ := d4.src; rw [← q, hf2] at hs; cases hs
      have d5 : Drawn a H3 (hput H3 f2 (.tdict [] [])) := (Drawn.refl d4.src).put hf2 hf2a
      have hF5 : hput H3 f2 (.tdict [] []) f2 = some (.tdict [] []) := hput_self
      generalize hput H3 f2 (.tdict [] []) = H5 at d5 hF5 ⊢
      array_get_dec
      let S3 : Sto := stoL [("source", .raw (.ref a)), ("blocks", .lst (bs.map Bk.d)), ("points_here", .lst (pts.map ptD)), ("numbers", .raw (.ref f2))]
      refine tS_cons (tX_For ?_ (by intro _ _; rfl) (by intro _; with_unfolding_all rfl))
      repeat array_get_dec
      refine tC_range ?_
      refine tIt_rng (n := (pts.map ptD).length) (by sizeOf_list_dec) l2 ?_
      refine LF_indA (ScI2 S3 pts f2 a H3) ?_ ?_ _ _ _
        ⟨less_of (by kernel_rfl), [], pts, rfl, by rw [List.range_eq_range', List.length_map]; rfl, hF5, d5⟩
      · rintro σ H6 ⟨hS, done, todo, e1, e2, hF, d6⟩
        have : todo = [] := by cases todo with | nil => rfl | cons => cases e2
        subst this
        rw [List.append_nil] at e1
        subst e1
        refine tS.less (σ' := S3) ?_ hS
        refine tS_freeze (x := "numbers") (by with_unfolding_all rfl) hF ?_
        have d7 : Drawn a H (hdel H6 f2) := d4.trans (d6.del hf2 hf2a)
        generalize hdel H6 f2 = H7 at d7 ⊢
        obtain ⟨nD, hnD⟩ : ∃ nD, nD = D.tdict (pts.map keyP) (pts.map fun p => .int (numOf pts p)) := ⟨_, rfl⟩
        rw [← hnD]
        let S4 : Sto := stoL [("source", .raw (.ref a)), ("blocks", .lst (bs.map Bk.d)), ("points_here", .lst (pts.map ptD)), ("numbers", nD)]
        refine tS.less (σ' := S4) ?_ (less_of (by kernel_rfl))
        clear hF5 d5 d6 hF hS e2 S3 hf2 hf2a S2
        refine tS_cons (tX_Assign (tE_Dict0I ?_) (by with_unfolding_all rfl) (by with_unfolding_all rfl) (by with_unfolding_all rfl))
        intro f3 hf3
        have hf3a : f3 ≠ a := fun q => by obtain ⟨s, hs⟩ := d7.src; rw [← q, hf3] at hs; cases hs
        have d8 : Drawn a H7 (hput H7 f3 (.idict [] [])) := (Drawn.refl d7.src).put hf3 hf3a
        have hF8 : hput H7 f3 (.idict [] []) f3 = some (.idict [] []) := hput_self
        generalize hput H7 f3 (.idict [] []) = H8 at d8 hF8 ⊢
        array_get_dec
        let S5 : Sto := stoL [("source", .raw (.ref a)), ("blocks", .lst (bs.map Bk.d)), ("points_here", .lst (pts.map ptD)), ("numbers", nD), ("held", .raw (.ref f3))]
        refine tS_cons (tX_For ?_ (by intro _ _; rfl) (by intro _; with_unfolding_all rfl))
        repeat array_get_dec
        refine LF_indA (ScI3 S5 f3 pts a H7) ?_ ?_ _ _ _
          ⟨less_of (by kernel_rfl), [], [1, 2, 5], rfl, rfl, by simp, hF8, d8⟩
        · rintro σ H9 ⟨hS, hl, todo, e1, e2, hsub, hF, d9⟩
          have : todo = [] := by cases todo with | nil => rfl | cons => cases e2
          subst this
          rw [List.append_nil] at e1
          refine tS.less (σ' := S5) ?_ hS
          refine tS_freeze (x := "held") (by with_unfolding_all rfl) hF ?_
          have d10 : Drawn a H (hdel H9 f3) := d7.trans (d9.del hf3 hf3a)
          generalize hdel H9 f3 = H10 at d10 ⊢
          obtain ⟨hD, hhD⟩ : ∃ hD, hD = D.idict (hl.map (·.1)) (hl.map fun x => ptsD x.2) := ⟨_, rfl⟩
          rw [← hhD]
          let S6 : Sto := stoL [("source", .raw (.ref a)), ("blocks", .lst (bs.map Bk.d)), ("points_here", .lst (pts.map ptD)), ("numbers", nD), ("held", hD)]
          refine tS.less (σ' := S6) ?_ (less_of (by kernel_rfl))
          clear hF8 d8 d9 hF hS e2 S5 hf3 hf3a S4 d7
          refine tS_cons (tX_AssignCompB (by with_unfolding_all rfl) (by with_unfolding_all rfl) (by with_unfolding_all rfl) (by intro _; with_unfolding_all rfl) (by with_unfolding_all rfl) ?_)
          repeat array_get_dec
          refine ⟨hptz, fun C => LC_pure ptD (fun p => decide (p.2 < blen bs p.1)) ptD rfl ?_ ?_ ?_⟩
          · intro p hp
            obtain ⟨k, hk, hi⟩ := (hmem p).mp hp
            have hlt := ((hmem p).mp hp).lt hB
            have hkb : (bs.map Bk.d)[((p.1 : Nat) : Int).toNat]? = some k.d := by rw [Int.toNat_natCast, List.getElem?_map, hk]; rfl
            have l1 := l62 p.1 _ hk
            repeat array_get_dec
            refine t2_itemL (k := p.1) .z rfl (by omega) (by omega) hkb ?_
            repeat array_get_dec
            refine t2_itemL (k := 0) .z rfl (by decide) (by decide) rfl ?_
            repeat array_get_dec
            refine ⟨rfl, ?_⟩
            rw [blen_of hk, List.length_map]; exact decide_eq_decide.mpr Int.ofNat_lt
          · intro p hp e
            repeat array_get_dec
            exact ⟨rfl, rfl⟩
          intro _
          have elend : (pts.filter fun p => decide (p.2 < blen bs p.1)) = lends bs := by rw [hpts]; rfl
          rw [elend]
          have hll : (lends bs).length ≤ 12 := by rw [← elend]; exact Nat.le_trans (List.length_filter_le _ _) hpl
          refine tS_cons (tX_Assign (tE_ListM (by with_unfolding_all rfl) ?_) (by with_unfolding_all rfl) (by with_unfolding_all rfl) (by with_unfolding_all rfl))
          repeat array_get_dec
          intro f4 hf4
          have hf4a : f4 ≠ a := fun q => by obtain ⟨s, hs⟩ := d10.src; rw [← q, hf4] at hs; cases hs
          have d11 : Drawn a H10 (hput H10 f4 (.lst [])) := (Drawn.refl d10.src).put hf4 hf4a
          have hF11 : hput H10 f4 (.lst []) f4 = some (.lst []) := hput_self
          generalize hput H10 f4 (.lst []) = H11 at d11 hF11 ⊢
          array_get_dec
          let S7 : Sto := stoL [("source", .raw (.ref a)), ("blocks", .lst (bs.map Bk.d)), ("points_here", .lst (pts.map ptD)), ("numbers", nD), ("held", hD), ("lends_here", .lst ((lends bs).map ptD)), ("loans", .raw (.ref f4))]
          refine tS_cons (tX_For (tE.mono (Q := fun d H' => ∃ n : Nat, d = .rng n ∧ n ≤ 3 ∧ (lends bs = [] → n = 0) ∧ Drawn a H11 H') ?_ ?_) (by intro _ _; rfl) (by intro _; with_unfolding_all rfl))
          · repeat array_get_dec
            refine t2_nilNe .z (flat_pts _) (by sizeOf_list_dec) ?_
            repeat array_get_dec
            refine itB (fun e => ?_) (fun e => ?_)
            · repeat array_get_dec
              refine c_take (by sizeOf_list_dec) d11.src (by decide) fun n H4 n0 n1 da => ?_
              obtain ⟨n, rfl⟩ := Int.eq_ofNat_of_zero_le n0
              repeat array_get_dec
              refine tC_range ⟨n, rfl, by omega, fun q => ?_, da⟩
              rw [q] at e; cases e
            · repeat array_get_dec
              exact tC_range ⟨0, rfl, by omega, fun _ => rfl, Drawn.refl d11.src⟩
          rintro _ H12 ⟨M, rfl, hM, hM0, d12⟩
          refine tIt_rng (n := M) (by sizeOf_list_dec) (by omega) ?_
          refine LF_indA (ScI4 S7 bs f4 a H10 M) ?_ ?_ _ _ _
            ⟨less_of (by kernel_rfl), M, [], by rw [List.range_eq_range']; rfl, by simp, ⟨by simp, by simp, by simp⟩, d12.ext f4 _ hf4a hF11, d11.trans d12⟩
          · rintro σ H13 ⟨hS, m, ls, e2, e3, hls, hF, d13⟩
            refine tS.less (σ' := S7) ?_ hS
            refine tS_freeze (x := "loans") (by with_unfolding_all rfl) hF ?_
            have d14 : Drawn a H (hdel H13 f4) := d10.trans (d13.del hf4 hf4a)
            generalize hdel H13 f4 = H14 at d14 ⊢
            obtain ⟨lD, hlD⟩ : ∃ lD, lD = D.lst (ls.map Loan.d) := ⟨_, rfl⟩
            rw [← hlD]
            let S8 : Sto := stoL [("blocks", .lst (bs.map Bk.d)), ("points_here", .lst (pts.map ptD)), ("numbers", nD), ("held", hD), ("loans", lD)]
            refine tS.less (σ' := S8) ?_ (less_of (by kernel_rfl))
            clear hF11 d11 d12 d13 hF hS e2 S7 hf4 hf4a d10 S6 d14 e3 hM hM0
            refine tS_cons (tX_Assign (tE_Dict0I ?_) (by with_unfolding_all rfl) (by with_unfolding_all rfl) (by with_unfolding_all rfl))
            intro f5 hf5
            have hF15 : hput H14 f5 (.idict [] []) f5 = some (.idict [] []) := hput_self
            generalize hput H14 f5 (.idict [] []) = H15 at hF15 ⊢
            array_get_dec
            let S9 : Sto := stoL [("blocks", .lst (bs.map Bk.d)), ("points_here", .lst (pts.map ptD)), ("numbers", nD), ("held", hD), ("loans", lD), ("values", .raw (.ref f5))]
            refine tS_cons (tX_For ?_ (by intro _ _; rfl) (by intro _; with_unfolding_all rfl))
            repeat array_get_dec
            rw [hhD]
            refine tIt_idict (by sizeOf_list_dec) ?_
            refine LF_indA (ScI5 S9 hl f5 pts) ?_ ?_ _ _ _
              ⟨less_of (by kernel_rfl), [], hl, rfl, rfl, hF15⟩
            · rintro σ H16 ⟨hS, done, todo, e2, e3, hF⟩
              have : todo = [] := by cases todo with | nil => rfl | cons => cases e3
              subst this
              rw [List.append_nil] at e2
              subst e2
              refine tS.less (σ' := S9) ?_ hS
              refine tS_freeze (x := "values") (by with_unfolding_all rfl) hF ?_
              subst hpts
              obtain ⟨w, hw⟩ : ∃ w, w = mkSc bs ls hl := ⟨_, rfl⟩
              have hwo : w.Ok := by rw [hw]; exact mkSc_ok hB hls fun x hx => (hsub x hx).1
              have wbs : w.bs = bs := by rw [hw]; rfl
              have wls : w.ls = ls := by rw [hw]; rfl
              have wpt : w.pts = allPts bs := by rw [hw]; rfl
              have wds : ∀ sp bg kp, w.ds sp bg kp = scDs (.obj 165 boN (boDs (.lst (bs.map Bk.d)) sp)) lD (.idict (hl.map (·.1)) (hl.map fun x => .fset (x.2.map (numOf (allPts bs))))) nD bg kp := fun sp bg kp => by rw [hw, hlD, hnD]; rfl
              have wheld : ∀ r, w.heldL r = (lookR r hl).getD [] := fun r => by rw [hw]; rfl
              generalize hdel H16 f5 = H17
              obtain ⟨vD, hvD⟩ : ∃ vD, vD = D.idict (hl.map (·.1)) (hl.map fun x => .fset (x.2.map (numOf (allPts bs)))) := ⟨_, rfl⟩
              rw [← hvD]
              rw [← hvD] at wds
              let Sa : Sto := stoL [("blocks", .lst (bs.map Bk.d)), ("points_here", .lst ((allPts bs).map ptD)), ("numbers", nD), ("held", hD), ("loans", lD), ("values", vD)]
              refine tS.less (σ' := Sa) ?_ (less_of (by kernel_rfl))
              clear hS hF hF15 S9 S8 hf5 e3
              array_get_dec
              array_get_dec
              array_get_dec
              array_get_dec
              refine tE_frzI ?_
              repeat array_get_dec
              refine c_mkBody (by sizeOf_list_dec) fun dx0 sp hdx0 => ⟨165, dx0, boN, _, rfl, hput_self, ?_⟩
              rw [hdel_hput hdx0]
              repeat array_get_dec
              refine c_mkScopes (by sizeOf_list_dec) fun dx bg hdx hbg hne => ?_
              have hX : hput (hput H17 dx (.ns scN (scDs (.obj 165 boN (boDs (.lst (bs.map Bk.d)) sp)) lD vD nD (.raw (.ref bg)) .none))) bg (.idict [0] [.sset []]) dx = some (.ns scN (w.ds sp (.raw (.ref bg)) .none)) := by
                rw [hput_ne (Ne.symm hne), hput_self, wds]
              have hBg : hput (hput H17 dx (.ns scN (scDs (.obj 165 boN (boDs (.lst (bs.map Bk.d)) sp)) lD vD nD (.raw (.ref bg)) .none))) bg (.idict [0] [.sset []]) bg = some (.idict [0] [.sset []]) := hput_self
              generalize hput (hput H17 dx (.ns scN (scDs (.obj 165 boN (boDs (.lst (bs.map Bk.d)) sp)) lD vD nD (.raw (.ref bg)) .none))) bg (.idict [0] [.sset []]) = H18 at hX hBg ⊢
              repeat array_get_dec
              refine tG_meth rfl cls100 (by with_unfolding_all rfl) (by with_unfolding_all rfl) hX (by with_unfolding_all rfl) ?_
              repeat array_get_dec
              refine c_lead (by sizeOf_list_dec) hwo hX hBg hne fun kp ks g H19 hkx hLd hK => ?_
              have hKk := hK.k
              have hKx := hK.x
              clear hK hX hBg
              let Sb : Sto := stoL [("blocks", .lst (bs.map Bk.d)), ("points_here", .lst ((allPts bs).map ptD)), ("held", hD), ("loans", lD), ("scopes", .inst 100 dx)]
              refine tS.less (σ' := Sb) ?_ (less_of (by kernel_rfl))
              clear Sa
              refine tS_cons (tX_Assign (tE_frz ?_) (by with_unfolding_all rfl) (by with_unfolding_all rfl) (by with_unfolding_all rfl))
              repeat array_get_dec
              refine c_come (by sizeOf_list_dec) hB fun fc fs hfc hfn hfs => ⟨fc, _, rfl, hput_self, ?_⟩
              rw [hdel_hput hfc]
              array_get_dec
              refine tS_cons (tX_Assign (tE_ListM (by with_unfolding_all rfl) ?_) (by with_unfolding_all rfl) (by with_unfolding_all rfl) (by with_unfolding_all rfl))
              repeat array_get_dec
              intro f6 hf6
              have hfk : f6 ≠ kp := fun q => by rw [q, hKk] at hf6; cases hf6
              have hfx : f6 ≠ dx := fun q => by rw [q, hKx] at hf6; cases hf6
              have hE0 : Ext H19 (hput H19 f6 (.lst [])) := (Ext.refl _).put hf6
              have hF20 : hput H19 f6 (.lst []) f6 = some (.lst []) := hput_self
              generalize hput H19 f6 (.lst []) = H20 at hE0 hF20 ⊢
              array_get_dec
              let Sc' : Sto := stoL [("blocks", .lst (bs.map Bk.d)), ("points_here", .lst ((allPts bs).map ptD)), ("held", hD), ("loans", lD), ("scopes", .inst 100 dx), ("come", intsD fs), ("ways", .raw (.ref f6))]
              refine tS_cons (tX_For ?_ (by intro _ _; rfl) (by intro _; with_unfolding_all rfl))
              repeat array_get_dec
              rw [hlD]
              repeat array_get_dec
              refine LF_indA (ScI6 Sc' ls w f6 H19) ?_ ?_ _ _ _
                ⟨less_of (by kernel_rfl), [], ls, [], rfl, rfl, rfl, by simp, hF20, hE0⟩
              · rintro σ H21 ⟨hS, done, todo, ws, e2, e3, e4, hws, hF, hE⟩
                have : todo = [] := by cases todo with | nil => rfl | cons => cases e3
                subst this
                rw [List.append_nil] at e2
                subst e2
                have hWs : WsOk w ws := ⟨by rw [wls]; exact e4, hws⟩
                refine tS.less (σ' := Sc') ?_ hS
                refine tS_freeze (x := "ways") (by with_unfolding_all rfl) hF ?_
                have hKk2 : hdel H21 f6 kp = some (w.keptD g (w.ptsOf ks)) := by rw [hdel_ne (Ne.symm hfk)]; exact hE _ _ hKk
                have hKx2 : hdel H21 f6 dx = some (.ns scN (w.ds sp (begD ks g) (.raw (.ref kp)))) := by rw [hdel_ne (Ne.symm hfx)]; exact hE _ _ hKx
                generalize hdel H21 f6 = H22 at hKk2 hKx2 ⊢
                let Sd : Sto := stoL [("points_here", .lst ((allPts bs).map ptD)), ("held", hD), ("loans", .lst (ls.map Loan.d)), ("scopes", .inst 100 dx), ("come", intsD fs), ("ways", .lst (ws.map ptsD))]
                refine tS.less (σ' := Sd) ?_ (less_of (by rw [← hlD]; kernel_rfl))
                clear hE hF hS Sc' hKk hKx hE0 hF20 e3 e4 hws
                refine tS_cons (tX_Assign ?_ (by with_unfolding_all rfl) (by with_unfolding_all rfl) (by with_unfolding_all rfl))
                refine tE_Tuple (by with_unfolding_all rfl) ?_
                refine tL_cons (tE_Dict0I fun f7 hf7 => ?_)
                refine tL_cons (tE_Dict0K fun f8 hf8 => ?_)
                refine tL_nil ⟨Nat.le_of_ble_eq_true rfl, ?_⟩
                have h87 : f8 ≠ f7 := fun q => by rw [q, hput_self] at hf8; cases hf8
                have h70 : hput H22 f7 (.idict [] []) f7 = some (.idict [] []) := hput_self
                have h7k : f7 ≠ kp := fun q => by rw [q, hKk2] at hf7; cases hf7
                have h7x : f7 ≠ dx := fun q => by rw [q, hKx2] at hf7; cases hf7
                have h8k : f8 ≠ kp := fun q => by rw [q, hput_ne (Ne.symm h7k), hKk2] at hf8; cases hf8
                have h8x : f8 ≠ dx := fun q => by rw [q, hput_ne (Ne.symm h7x), hKx2] at hf8; cases hf8
                have hG7 : hput (hput H22 f7 (.idict [] [])) f8 (.tdict [] []) f7 = some (.idict [] []) := by rw [hput_ne (Ne.symm h87)]; exact hput_self
                have hG8 : hput (hput H22 f7 (.idict [] [])) f8 (.tdict [] []) f8 = some (.tdict [] []) := hput_self
                have hGk : hput (hput H22 f7 (.idict [] [])) f8 (.tdict [] []) kp = some (w.keptD g (w.ptsOf ks)) := by rw [hput_ne (Ne.symm h8k), hput_ne (Ne.symm h7k)]; exact hKk2
                have hGx : hput (hput H22 f7 (.idict [] [])) f8 (.tdict [] []) dx = some (.ns scN (w.ds sp (begD ks g) (.raw (.ref kp)))) := by rw [hput_ne (Ne.symm h8x), hput_ne (Ne.symm h7x)]; exact hKx2
                generalize hput (hput H22 f7 (.idict [] [])) f8 (.tdict [] []) = H23 at hG7 hG8 hGk hGx ⊢
                refine tA_tup (by sizeOf_list_dec) rfl rfl ?_
                array_get_dec
                array_get_dec
                array_get_dec
                array_get_dec
                array_get_dec
                let Se : Sto := stoL [("points_here", .lst ((allPts bs).map ptD)), ("held", hD), ("loans", .lst (ls.map Loan.d)), ("scopes", .inst 100 dx), ("come", intsD fs), ("ways", .lst (ws.map ptsD)), ("begins", .raw (.ref f7)), ("kept", .raw (.ref f8))]
                refine tS.less (σ' := Se) ?_ (less_of (by kernel_rfl))
                refine tS_cons (tX_For ?_ (by intro _ _; rfl) (by intro _; with_unfolding_all rfl))
                repeat array_get_dec
                refine tIt_lst (by sizeOf_list_dec) ?_
                have hfb : ∀ b, b ∈ ks ↔ b ∈ fs := fun b => (hLd.come b).trans (by rw [wbs]; exact (hfs b).symm)
                have hkl : ∀ b ∈ ks, b < w.bs.length := hLd.lt
                have hz3 : ls.length ≤ 1000 := by have := hls.len; omega
                have hlok : ∀ l ∈ ls, l.Ok := fun l hl => hwo.ls l (by rw [wls]; exact hl)
                have hwn : ∀ l ∈ ls, l.n < 3 ∧ (ws.map ptsD)[((l.n : Nat) : Int).toNat]? = some (ptsD (wsAt ws l.n)) := fun l hl => by
                  have h1 := hls.n hl
                  have h2 := hls.len
                  have h3 := hWs.len
                  rw [wls] at h3
                  refine ⟨by omega, ?_⟩
                  rw [Int.toNat_natCast, List.getElem?_map]
                  unfold wsAt
                  rw [List.getElem?_eq_getElem (by omega)]; rfl
                have hpmap : ∀ p, p ∈ w.ptsOf ks ↔ p ∈ (allPts bs).filter fun p => decide (p.1 ∈ fs) := fun p => by
                  rw [mem_ptsOf hwo hkl, List.mem_filter, wbs, hfb, ← hmem]; simp
                refine LF_indA (ScI7 Se fs f7 f8 kp dx w ws ks g sp) ?_ ?_ _ _ _
                  ⟨Less.refl _, [], fs, rfl, rfl, hG7, hG8, hGk, hGx⟩
                · rintro σ H24 ⟨hS, done, todo, e2, e3, hG7, hG8, hGk, hGx⟩
                  have : todo = [] := by cases todo with | nil => rfl | cons => cases e3
                  subst this
                  rw [List.append_nil] at e2
                  subst e2
                  refine tS.less (σ' := Se) ?_ hS
                  refine tS_cons (tX_For ?_ (by intro _ _; rfl) (by intro _; with_unfolding_all rfl))
                  repeat array_get_dec
                  refine LF_indA (ScI8 Se bs fs f7 f8 kp dx w ws ks g sp) ?_ ?_ _ _ _
                    ⟨Less.refl _, [], allPts bs, rfl, rfl, hG7, hG8, hGk, hGx⟩
                  · rintro σ H25 ⟨hS, pd, todo, e2, e3, hG7, hG8, hGk, hGx⟩
                    have : todo = [] := by cases todo with | nil => rfl | cons => cases e3
                    subst this
                    rw [List.append_nil] at e2
                    subst e2
                    refine tS.less (σ' := Se) ?_ hS
                    array_get_dec
                    array_get_dec
                    array_get_dec
                    repeat array_get_dec
                    refine ⟨hptz, fun C => LC_pure ptD (fun _ => false) ptD rfl ?_ ?_ ?_⟩
                    · intro p hp
                      have hpv := (hmem p).mp hp
                      repeat array_get_dec
                      refine tG_meth rfl cls100 (by with_unfolding_all rfl) (by with_unfolding_all rfl) hGx (by with_unfolding_all rfl) ?_
                      repeat array_get_dec
                      refine c_at (by sizeOf_list_dec) hGx hGk ?_
                      have hsame : ∃ s, (getK (keyP p) ((w.ptsOf ks).map keyP) ((w.ptsOf ks).map fun p => D.sset (w.keptAt g p))).getD (.sset []) = .sset s ∧ (getK (keyP p) (((allPts bs).filter fun p => decide (p.1 ∈ fs)).map keyP) (((allPts bs).filter fun p => decide (p.1 ∈ fs)).map fun p => D.sset (keptB w ws p))).getD (.sset []) = .sset s := by
                        rw [getK_map (fun _ _ => keyP_inj) (fun p => D.sset (w.keptAt g p)), getK_map (fun _ _ => keyP_inj) (fun p => D.sset (keptB w ws p))]
                        by_cases q : p ∈ w.ptsOf ks
                        · rw [if_pos q, if_pos ((hpmap p).mp q)]
                          have hq := (mem_ptsOf hwo hkl).mp q
                          refine ⟨w.keptAt g p, rfl, ?_⟩
                          rw [keptB_eq hwo hWs hLd hq.1 hq.2]; rfl
                        · rw [if_neg q, if_neg (fun q' => q ((hpmap p).mpr q'))]
                          exact ⟨[], rfl, rfl⟩
                      obtain ⟨s, hs1, hs2⟩ := hsame
                      rw [hs1]
                      repeat array_get_dec
                      refine tG_get (.inr ⟨_, _, .h hG8⟩) ?_
                      repeat array_get_dec
                      refine tC_fz0 ?_
                      repeat array_get_dec
                      refine tC_getK (k := keyP p) (by sizeOf_list_dec) (.h hG8) rfl ?_
                      rw [hs2]
                      refine t2_neS (by sizeOf_list_dec) ?_
                      repeat array_get_dec
                      exact ⟨rfl, by simp⟩
                    · intro p hp e; cases e
                    intro _
                    repeat array_get_dec
                    refine t2_nilNe .z (flat_pts _) (by sizeOf_list_dec) ?_
                    repeat array_get_dec
                    refine itB (fun e => ?_) (fun e => ?_)
                    · simp at e
                    repeat array_get_dec
                    refine t1_own rfl cls100 (by with_unfolding_all rfl) hGx (by with_unfolding_all rfl) rfl ?_
                    repeat array_get_dec
                    refine t2_eqI (by sizeOf_list_dec) .z (.h hG7) ?_ ?_ ?_
                    · rw [List.length_map, List.length_map]; exact same_len hLd.nd hfn hfb
                    · intro j k x hk hx
                      rw [List.getElem?_map] at hk hx
                      obtain ⟨b, hb, rfl⟩ := Option.map_eq_some_iff.mp hk
                      rw [hb] at hx
                      cases hx
                      have hbk := List.mem_of_getElem? hb
                      refine ⟨g b, rfl, ?_⟩
                      rw [begD_get, if_pos ((hfb b).mp hbk), begB_eq hwo hWs hLd hbk]
                    repeat array_get_dec
                    refine t1_own rfl cls100 (by with_unfolding_all rfl) hGx (by with_unfolding_all rfl) rfl ?_
                    repeat array_get_dec
                    refine t2_eqK (hr.u (k := 5) (by decide)) (.h hGk) (.h hG8) ?_ ?_ ?_
                    · rw [List.length_map, List.length_map]; exact same_len (nodup_ptsOf w hLd.nd) (hnd.filter _) hpmap
                    · intro j k x hk hx
                      rw [List.getElem?_map] at hk hx
                      obtain ⟨p, hp, rfl⟩ := Option.map_eq_some_iff.mp hk
                      rw [hp] at hx
                      cases hx
                      have hpk := List.mem_of_getElem? hp
                      have hq := (mem_ptsOf hwo hkl).mp hpk
                      refine ⟨w.keptAt g p, rfl, ?_⟩
                      rw [getK_map (fun _ _ => keyP_inj) (fun p => D.sset (keptB w ws p)), if_pos ((hpmap p).mp hpk), keptB_eq hwo hWs hLd hq.1 hq.2]
                    repeat array_get_dec
                    exact h _
                  · rintro Q' d ds σ H25 ⟨hS, pd, todo, e2, e3, hG7, hG8, hGk, hGx⟩
                    cases todo with
                    | nil => cases e3
                    | cons p todo =>
                      injection e3 with e5 e3
                      subst e5
                      have hpm : p ∈ allPts bs := by rw [e2]; simp
                      have hpn : p ∉ pd := fun q => by
                        rw [e2, List.nodup_append] at hnd
                        exact hnd.2.2 p q p (by simp) rfl
                      have hpdl : (pd.filter fun p => decide (p.1 ∈ fs)).length ≤ 12 := by
                        have h1 := congrArg List.length e2
                        rw [List.length_append] at h1
                        have h2 := List.length_filter_le (fun p : Pt => decide (p.1 ∈ fs)) pd
                        omega
                      refine tA_cell (by with_unfolding_all rfl) (by with_unfolding_all rfl) ?_
                      refine tS.less (σ' := sput Se "point" (ptD p)) ?_ hS.both
                      repeat array_get_dec
                      refine t2_in (p := .int p.1) .z rfl (intsD_py fs) rfl (Nat.le_of_ble_eq_true rfl) (ints_lay fs) (by sizeOf_list_dec) ?_
                      rw [any_int]
                      repeat array_get_dec
                      refine itB (fun e => ?_) (fun e => ?_)
                      · refine tS_cons (tX_AssignCompB (by with_unfolding_all rfl) (by with_unfolding_all rfl) (by with_unfolding_all rfl) (by intro _; with_unfolding_all rfl) (by with_unfolding_all rfl) ?_)
                        repeat array_get_dec
                        refine ⟨lz hz3, fun C => LC_pure Loan.d (fun l => decide (p ∈ wsAt ws l.n) && decide (p ∈ w.heldL l.r)) (fun l => .int l.n) rfl ?_ ?_ ?_⟩
                        · intro l hl'
                          have hw3 := hwn l hl'
                          repeat array_get_dec
                          refine t2_itemL (k := l.n) .z rfl (by omega) (by omega) hw3.2 ?_
                          refine t2_in (p := ptPy p) .z rfl (ptsD_py _) rfl (Nat.le_of_ble_eq_true rfl) (pts_lay _) (by sizeOf_list_dec) ?_
                          rw [any_pt]
                          repeat array_get_dec
                          refine itB (fun e => ?_) (fun e => ?_)
                          · repeat array_get_dec
                            refine tG_get (.inl ⟨_, _, by rw [hhD]; exact .z⟩) ?_
                            repeat array_get_dec
                            refine tC_getI (by rw [hhD]; exact .z) rfl ?_
                            have hget : (getK l.r (hl.map (·.1)) (hl.map fun x => ptsD x.2)).getD (.lst []) = ptsD (w.heldL l.r) := by
                              rw [getK_look ptsD, wheld]
                              cases lookR l.r hl <;> rfl
                            rw [hget]
                            refine t2_in (p := ptPy p) .z rfl (ptsD_py _) rfl (Nat.le_of_ble_eq_true rfl) (pts_lay _) (by sizeOf_list_dec) ?_
                            rw [any_pt]
                            repeat array_get_dec
                            refine itB (fun e' => ?_) (fun e' => ?_)
                            · repeat array_get_dec
                              exact ⟨rfl, by rw [e, e']; rfl⟩
                            · exact ⟨rfl, by rw [e, e']; rfl⟩
                          · exact ⟨rfl, by rw [e]; rfl⟩
                        · intro l hl' e
                          repeat array_get_dec
                          exact ⟨rfl, rfl⟩
                        · intro _
                          repeat array_get_dec
                          refine tC_fzMap (g := Loan.n) (by sizeOf_list_dec) (filt_ok hlok) ?_
                          have ek : canon ((ls.filter fun l => decide (p ∈ wsAt ws l.n) && decide (p ∈ w.heldL l.r)).map Loan.n) = keptB w ws p := by unfold keptB; rw [wls]
                          rw [ek]
                          repeat array_get_dec
                          refine tU_setK (k := keyP p) (by sizeOf_list_dec) hG8 rfl (by rw [List.length_map]; exact Nat.le_trans hpdl (by decide)) ?_
                          rw [putK_map_new (fun _ _ => keyP_inj) (fun p => D.sset (keptB w ws p)) p _ _ (fun q => hpn (List.mem_filter.mp q).1)]
                          have ef : (pd ++ [p]).filter (fun p => decide (p.1 ∈ fs)) = pd.filter (fun p => decide (p.1 ∈ fs)) ++ [p] := by
                            rw [List.filter_append]; congr 1; rw [List.filter_cons, if_pos e]; rfl
                          have h7' : f7 ≠ f8 := fun q => by rw [q, hG8] at hG7; cases hG7
                          have hk' : kp ≠ f8 := Ne.symm h8k
                          have hx' : dx ≠ f8 := Ne.symm h8x
                          repeat array_get_dec
                          refine ⟨?_, pd ++ [p], todo, by rw [e2]; simp, e3, by rw [hput_ne h7']; exact hG7, ?_, by rw [hput_ne hk']; exact hGk, by rw [hput_ne hx']; exact hGx⟩
                          · exact less_of (by kernel_rfl)
                          · rw [hput_self, ef, List.map_append (f := fun p => D.sset (keptB w ws p))]; rfl
                      · have ef : (pd ++ [p]).filter (fun p => decide (p.1 ∈ fs)) = pd.filter (fun p => decide (p.1 ∈ fs)) := by
                          rw [List.filter_append, List.filter_cons, if_neg (by rw [e]; decide)]; simp
                        repeat array_get_dec
                        refine ⟨?_, pd ++ [p], todo, by rw [e2]; simp, e3, hG7, by rw [ef]; exact hG8, hGk, hGx⟩
                        exact less_of (by kernel_rfl)
                · rintro Q' d ds σ H24 ⟨hS, done, todo, e2, e3, hG7, hG8, hGk, hGx⟩
                  cases todo with
                  | nil => cases e3
                  | cons b todo =>
                    injection e3 with e5 e3
                    subst e5
                    have hbn : b ∉ done := fun q => by
                      rw [e2, List.nodup_append] at hfn
                      exact hfn.2.2 b q b (by simp) rfl
                    have hdn : done.Nodup := by rw [e2, List.nodup_append] at hfn; exact hfn.1
                    have hdl : done.length ≤ 3 := by
                      have h1 := hdn.length_le_of_subset (l₂ := List.range w.bs.length) (fun c hc => List.mem_range.mpr (hkl c ((hfb c).mpr (by rw [e2]; simp [hc]))))
                      rw [List.length_range, wbs] at h1
                      have := hB.len; omega
                    refine tA_cell (by with_unfolding_all rfl) (by with_unfolding_all rfl) ?_
                    refine tS.less (σ' := sput Se "block" (.int b)) ?_ hS.both
                    repeat array_get_dec
                    refine ⟨lz hz3, fun C => LC_pure Loan.d (fun l => decide ((b, 0) ∈ wsAt ws l.n)) (fun l => .int l.n) rfl ?_ ?_ ?_⟩
                    · intro l hl'
                      have hw3 := hwn l hl'
                      repeat array_get_dec
                      refine t2_itemL (k := l.n) .z rfl (by omega) (by omega) hw3.2 ?_
                      refine t2_in (p := ptPy (b, 0)) .z rfl (ptsD_py _) rfl (Nat.le_of_ble_eq_true rfl) (pts_lay _) (by sizeOf_list_dec) ?_
                      rw [any_pt]
                      repeat array_get_dec
                      exact ⟨rfl, rfl⟩
                    · intro l hl' e
                      repeat array_get_dec
                      exact ⟨rfl, rfl⟩
                    · intro _
                      refine tL_nil (tC_fzMap (g := Loan.n) (by sizeOf_list_dec) (filt_ok hlok) ?_)
                      have ek : canon ((ls.filter fun l => decide ((b, 0) ∈ wsAt ws l.n)).map Loan.n) = begB w ws b := by unfold begB; rw [wls]
                      rw [ek]
                      repeat array_get_dec
                      refine tU_setI hG7 rfl (by rw [List.length_map]; exact Nat.le_trans hdl (by decide)) ?_
                      rw [begD_put hdn]
                      have ea : addk b done = done ++ [b] := if_neg hbn
                      have eu : upd (begB w ws) b (begB w ws b) = begB w ws := by
                        funext x; unfold upd; split
                        · rename_i q; rw [q]
                        · rfl
                      rw [ea, eu]
                      have h7' : f8 ≠ f7 := h87
                      repeat array_get_dec
                      refine ⟨?_, done ++ [b], todo, by rw [e2]; simp, e3, hput_self, by rw [hput_ne h7']; exact hG8, by rw [hput_ne (Ne.symm h7k)]; exact hGk, by rw [hput_ne (Ne.symm h7x)]; exact hGx⟩
                      exact less_of (by kernel_rfl)
              · rintro Q' d ds σ H21 ⟨hS, done, todo, ws, e2, e3, e4, hws, hF, hE⟩
                cases todo with
                | nil => cases e3
                | cons l todo =>
                  injection e3 with e5 e3
                  subst e5
                  have hlm : l ∈ ls := by rw [e2]; simp
                  have hli : ls[done.length]? = some l := by rw [e2, List.getElem?_append_right (Nat.le_refl _), Nat.sub_self]; rfl
                  have hl3 := hls.len
                  have hdl : done.length < 3 := by have := (List.getElem?_eq_some_iff.mp hli).1; omega
                  have hlo : l.Ok := hwo.ls l (by rw [wls]; exact hlm)
                  have hlv : Valid bs (l.b, l.i) := by
                    obtain ⟨k, hk, hi⟩ := hwo.lv l (by rw [wls]; exact hlm)
                    rw [wbs] at hk
                    exact ⟨k, hk, Nat.le_of_lt hi⟩
                  refine tA_loc (by with_unfolding_all rfl) (by with_unfolding_all rfl) ?_
                  refine tS.less (σ' := sput Sc' "loan" l.d) ?_ hS.both
                  repeat array_get_dec
                  refine tG_append hF ?_
                  repeat array_get_dec
                  refine t2_in (p := .int l.b) .z rfl (intsD_py fs) rfl (Nat.le_of_ble_eq_true rfl) (ints_lay fs) (by sizeOf_list_dec) ?_
                  rw [any_int]
                  repeat array_get_dec
                  have fin : ∀ (ps : List Pt) (H2 : Hp) (σ' : Sto), (∀ p, p ∈ ps ↔ w.way done.length p) → H2 = H21 → Less Sc' σ' → ScI6 Sc' ls w f6 H19 ds σ' (hput H2 f6 (.lst (ws.map ptsD ++ [ptsD ps]))) := fun ps H2 σ' hps e hL => by
                    subst e
                    refine ⟨hL, done ++ [l], todo, ws ++ [ps], by rw [e2]; simp, e3, by rw [List.length_append, List.length_append, e4]; rfl, fun n qs hn => ?_, by rw [hput_self, List.map_append]; rfl, hE.put hf6⟩
                    rcases Nat.lt_or_ge n ws.length with q | q
                    · rw [List.getElem?_append_left q] at hn; exact hws n qs hn
                    · rw [List.getElem?_append_right q] at hn
                      have : n - ws.length = 0 := by
                        cases e : n - ws.length with
                        | zero => rfl
                        | succ m => rw [e] at hn; cases hn
                      rw [this] at hn
                      cases hn
                      have : n = done.length := by omega
                      rw [this]; exact hps
                  refine itB (fun e => ?_) (fun e => ?_)
                  · have hbr : Reach bs l.b := (hfs _).mp (by simpa using e)
                    refine tE_frz ?_
                    repeat array_get_dec
                    refine tG_get (.inl ⟨_, _, by rw [hhD]; exact .z⟩) ?_
                    repeat array_get_dec
                    refine tC_getI (by rw [hhD]; exact .z) rfl ?_
                    have hget : (getK l.r (hl.map (·.1)) (hl.map fun x => ptsD x.2)).getD (.lst []) = ptsD (w.heldL l.r) := by
                      rw [getK_look ptsD, wheld]
                      cases lookR l.r hl <;> rfl
                    rw [hget]
                    repeat array_get_dec
                    refine c_followed (by sizeOf_list_dec) hB hlo hlv fun fl fps hfl hfn' hff => ⟨fl, _, rfl, hput_self, ?_⟩
                    rw [hdel_hput hfl]
                    repeat array_get_dec
                    refine tC_append hF (by rw [List.length_map]; exact Nat.le_trans (m := 3) (by omega) (by decide)) ?_
                    repeat array_get_dec
                    refine fin fps _ _ (fun p => ?_) rfl (less_of (by kernel_rfl))
                    · rw [hff]
                      unfold Sc.way
                      rw [wls, wbs]
                      constructor
                      · exact fun h => ⟨l, hli, hbr, h⟩
                      · rintro ⟨l', hl', _, h⟩
                        have : l' = l := Option.some.inj (hl'.symm.trans hli)
                        subst this; exact h
                  · have hbr : ¬ Reach bs l.b := fun q => by have := (hfs _).mpr q; simp [this] at e
                    repeat array_get_dec
                    refine tC_append hF (by rw [List.length_map]; exact Nat.le_trans (m := 3) (by omega) (by decide)) ?_
                    repeat array_get_dec
                    refine fin [] _ _ (fun p => ?_) rfl (less_of (by kernel_rfl))
                    · unfold Sc.way
                      rw [wls, wbs]
                      constructor
                      · exact fun h => (by cases h)
                      · rintro ⟨l', hl', hr', h⟩
                        have : l' = l := Option.some.inj (hl'.symm.trans hli)
                        subst this; exact absurd hr' hbr
            · rintro Q' d ds σ H16 ⟨hS, done, todo, e2, e3, hF⟩
              cases todo with
              | nil => cases e3
              | cons x todo =>
                injection e3 with e4 e3
                subst e4
                have hxm : x ∈ hl := by rw [e2]; simp
                have hdn : (done.map (·.1) ++ x.1 :: todo.map (·.1)) = [1, 2, 5] := by rw [← e1, e2, List.map_append]; rfl
                have hrn : x.1 ∉ done.map (·.1) := fun q => by
                  have hnn : (done.map (·.1) ++ x.1 :: todo.map (·.1)).Nodup := by rw [hdn]; decide
                  rw [List.nodup_append] at hnn
                  exact hnn.2.2 x.1 q x.1 (by simp) rfl
                have hdl : done.length ≤ 3 := by
                  have := congrArg List.length hdn
                  rw [List.length_append, List.length_map] at this
                  have e3 : [1, 2, 5].length = 3 := rfl
                  have : done.length + (x.1 :: todo.map (·.1)).length = 3 := this
                  omega
                have hget : getK x.1 (hl.map (·.1)) (hl.map fun x => ptsD x.2) = some (ptsD x.2) := by
                  rw [getK_look ptsD]
                  have : ∀ (l : List (Int × List Pt)), x ∈ l → (l.map (·.1)).Nodup → lookR x.1 l = some x.2 := by
                    intro l
                    induction l with
                    | nil => intro h; cases h
                    | cons y l ih =>
                      intro h hn
                      obtain ⟨n1, n2⟩ := List.nodup_cons.mp hn
                      unfold lookR
                      rcases List.mem_cons.mp h with rfl | h
                      · rw [if_pos rfl]
                      · rw [if_neg (fun q => n1 (List.mem_map.mpr ⟨x, h, q.symm⟩))]
                        exact ih h n2
                  rw [this hl hxm (by rw [e1]; decide)]; rfl
                have hx12 := (hsub x hxm).2
                refine tA_loc (by with_unfolding_all rfl) (by with_unfolding_all rfl) ?_
                refine tS.less (σ' := sput S9 "region" (.int x.1)) ?_ hS.both
                repeat array_get_dec
                refine t2_itemI (by rw [hhD]; exact .z) rfl hget ?_
                refine tIt_lst (by sizeOf_list_dec) ?_
                refine ⟨by rw [List.length_map]; exact Nat.le_trans hx12 (by decide), fun C => LC_map (C := C) ptD (fun p => .int (numOf pts p)) rfl ?_ ?_⟩
                · intro p hp
                  have hpp := (hsub x hxm).1 p hp
                  repeat array_get_dec
                  refine t2_itemK (k := keyP p) (by sizeOf_list_dec) (by rw [hnD]; exact .z) rfl (by rw [getK_map (fun _ _ => keyP_inj) (fun p => D.int (numOf pts p)), if_pos hpp]) ?_
                  exact ⟨rfl, rfl⟩
                · have em : x.2.map (fun p => D.int (numOf pts p)) = (x.2.map (numOf pts)).map .int := by rw [List.map_map]; rfl
                  rw [em]
                  refine tL_nil (tC_fzL (by sizeOf_list_dec) (by rw [List.length_map]; omega) ?_)
                  repeat array_get_dec
                  refine tU_setI hF rfl (by rw [List.length_map]; exact Nat.le_trans hdl (by decide)) ?_
                  rw [putK_fresh _ _ _ _ (by rw [List.length_map, List.length_map]) hrn]
                  repeat array_get_dec
                  refine ⟨?_, done ++ [x], todo, by rw [e2]; simp, e3, ?_⟩
                  · exact less_of (by kernel_rfl)
                  · rw [hput_self, List.map_append, List.map_append]; rfl
          · rintro Q' d ds σ H13 ⟨hS, m, ls, e2, e3, hls, hF, d13⟩
            cases m with
            | zero => cases e2
            | succ m =>
              rw [List.range'_succ] at e2
              injection e2 with e4 e2
              subst e4
              have hne : lends bs ≠ [] := fun q => by have := hM0 q; omega
              have hlp : 0 < (lends bs).length := List.length_pos_iff.mpr hne
              refine tA_loc (by with_unfolding_all rfl) (by with_unfolding_all rfl) ?_
              refine tS.less (σ' := sput S7 "turn" (.int ls.length)) ?_ hS.both
              repeat array_get_dec
              refine c_place (by sizeOf_list_dec) d13.src fun p Ha hp da => ?_
              repeat array_get_dec
              refine c_one (by sizeOf_list_dec) da.src ⟨Nat.le_of_ble_eq_true rfl, Nat.le_of_ble_eq_true rfl⟩ fun dr Hb hdr db => ?_
              have hdr : ∃ r : Int, dr = .int r := by
                simp only [List.mem_cons, List.not_mem_nil, or_false] at hdr
                rcases hdr with rfl | rfl | rfl | rfl <;> exact ⟨_, rfl⟩
              obtain ⟨r, rfl⟩ := hdr
              repeat array_get_dec
              refine c_one (by sizeOf_list_dec) db.src ⟨by rw [List.length_map]; exact hlp, by rw [List.length_map]; omega⟩ fun dp Hc hdp dc => ?_
              obtain ⟨q, hq, rfl⟩ := List.mem_map.mp hdp
              have hFc := dc.ext f4 _ hf4a (db.ext f4 _ hf4a (da.ext f4 _ hf4a hF))
              repeat array_get_dec
              refine tG_append hFc ?_
              repeat array_get_dec
              refine tC_append hFc (by rw [List.length_map]; exact Nat.le_trans (m := 3) (by omega) (by decide)) ?_
              have eL : D.lst (ls.map Loan.d ++ [.tup [.int ls.length, p.d, .str "mut", .int r, ptD q, .tup []]]) = .lst ((ls ++ [Loan.mk ls.length p r q.1 q.2]).map Loan.d) := by
                rw [List.map_append]; rfl
              rw [eL]
              repeat array_get_dec
              refine ⟨?_, m, ls ++ [Loan.mk ls.length p r q.1 q.2], by rw [List.length_append]; exact e2, by rw [List.length_append]; show ls.length + 1 + m = M; omega, ⟨?_, ?_, ?_⟩, hput_self, (((d13.trans da).trans db).trans dc).put hf4 hf4a⟩
              · exact less_of (by kernel_rfl)
              · rw [List.length_append]; show ls.length + 1 ≤ 3; omega
              · intro j l hj
                rcases Nat.lt_trichotomy j ls.length with q' | q' | q'
                · rw [List.getElem?_append_left q'] at hj; exact hls.nth j l hj
                · subst q'
                  rw [List.getElem?_append_right (Nat.le_refl _), Nat.sub_self] at hj
                  cases hj; rfl
                · rw [List.getElem?_eq_none (by rw [List.length_append]; show ls.length + 1 ≤ j; omega)] at hj; cases hj
              · intro l hl'
                rcases List.mem_append.mp hl' with q' | q'
                · exact hls.ok l q'
                · rw [List.mem_singleton] at q'; subst q'
                  exact ⟨Nat.le_trans hp (by decide), hq⟩
        · rintro Q' d ds σ H9 ⟨hS, done, todo, e1, e2, hsub, hF, d9⟩
          cases todo with
          | nil => cases e2
          | cons r todo =>
            injection e2 with e3 e2
            subst e3
            refine tA_loc (by with_unfolding_all rfl) (by with_unfolding_all rfl) ?_
            refine tS.less (σ' := sput S5 "region" (.int r)) ?_ hS.both
            array_get_dec
            array_get_dec
            refine tE_CompB (by with_unfolding_all rfl) (by intro _; with_unfolding_all rfl) ?_
            repeat array_get_dec
            refine tC_range ?_
            refine tIt_rng (n := 2) (by sizeOf_list_dec) (by decide) ?_
            refine ⟨Nat.le_of_ble_eq_true rfl, fun C => LC_draw (a := a) (fun i : Nat => D.int i) (P := fun d => ∃ o : Option Pt, d = optD o) rfl d9.src ?_ ?_⟩
            · intro j _ Ha da
              repeat array_get_dec
              refine t2_addL .z .z (by rw [List.length_map]; exact Nat.le_trans (m := 15) (by show _ + 3 ≤ 15; omega) (by decide)) ?_
              repeat array_get_dec
              refine c_one (by sizeOf_list_dec) da.src ⟨by rw [List.length_append]; show 0 < _ + 3; omega, by rw [List.length_append, List.length_map]; show _ + 3 < _; omega⟩ fun d Hb hd db => ?_
              refine ⟨db, ?_⟩
              rcases List.mem_append.mp hd with q | q
              · obtain ⟨p, _, rfl⟩ := List.mem_map.mp q; exact ⟨some p, rfl⟩
              · simp only [List.mem_cons, List.not_mem_nil, or_false] at q
                refine ⟨none, ?_⟩
                rcases q with rfl | rfl | rfl <;> rfl
            · intro acc Ha hlen hacc da
              obtain ⟨ms, rfl⟩ := rows_of (f := optD) (fun _ h => h) hacc
              have hmp : (D.lst (ms.map optD)).py = some (.list (ms.map optPy)) := by simp only [D.py, opts_py, Option.map_some]
              repeat array_get_dec
              refine ⟨hptz, fun C => LC_pure ptD (fun p => !((ms.map optPy).any fun y => PyData.eqv y (ptPy p))) ptD rfl ?_ ?_ ?_⟩
              · intro p hp
                repeat array_get_dec
                refine t2_notIn (p := ptPy p) .z rfl hmp rfl (Nat.le_of_ble_eq_true rfl) (opts_lay ms) (by sizeOf_list_dec) ?_
                repeat array_get_dec
                exact ⟨rfl, rfl⟩
              · intro p hp e
                repeat array_get_dec
                exact ⟨rfl, rfl⟩
              · intro _
                have hFa := da.ext f3 _ hf3a hF
                have hrn : r ∉ done.map (·.1) := fun q => by
                  have hnn : (done.map (·.1) ++ r :: todo).Nodup := by rw [e1]; decide
                  rw [List.nodup_append] at hnn
                  exact hnn.2.2 r q r (by simp) rfl
                have hdl : done.length ≤ 3 := by
                  have := congrArg List.length e1
                  rw [List.length_append, List.length_map] at this
                  have e3 : [1, 2, 5].length = 3 := rfl
                  have : done.length + (r :: todo).length = 3 := this
                  omega
                repeat array_get_dec
                refine tU_setI hFa rfl (by rw [List.length_map]; exact Nat.le_trans hdl (by decide)) ?_
                rw [putK_fresh _ _ _ _ (by rw [List.length_map, List.length_map]) hrn]
                repeat array_get_dec
                refine ⟨?_, done ++ [(r, pts.filter fun p => !((ms.map optPy).any fun y => PyData.eqv y (ptPy p)))], todo, by rw [List.map_append, List.append_assoc]; exact e1, e2, ?_, ?_, (d9.trans da).put hf3 hf3a⟩
                · exact less_of (by kernel_rfl)
                · intro x hx
                  rcases List.mem_append.mp hx with q | q
                  · exact hsub x q
                  · rw [List.mem_singleton] at q; subst q
                    exact ⟨fun p hp => (List.mem_filter.mp hp).1, Nat.le_trans (List.length_filter_le _ _) hpl⟩
                · rw [hput_self, List.map_append, List.map_append]; rfl
      · rintro Q' d ds σ H6 ⟨hS, done, todo, e1, e2, hF, d6⟩
        cases todo with
        | nil => cases e2
        | cons p todo =>
          rw [List.length_cons, List.range'_succ] at e2
          injection e2 with e3 e2
          subst e3
          have hp : (pts.map ptD)[((done.length : Nat) : Int).toNat]? = some (ptD p) := by rw [Int.toNat_natCast, List.getElem?_map, e1, List.getElem?_append_right (Nat.le_refl _), Nat.sub_self]; rfl
          have hdl : done.length < 12 := by
            have := congrArg List.length e1
            rw [List.length_append] at this
            have : pts.length = done.length + (p :: todo).length := this
            have e3 : (p :: todo).length = todo.length + 1 := rfl
            omega
          have hpd : p ∉ done := fun q => by
            rw [e1, List.nodup_append] at hnd
            exact hnd.2.2 p q p (by simp) rfl
          refine tA_loc (by with_unfolding_all rfl) (by with_unfolding_all rfl) ?_
          refine tS.less (σ' := sput S3 "at" (.int done.length)) ?_ hS.both
          repeat array_get_dec
          refine t2_mul (.of_right (intBits_le_64 (by omega) (by omega))) ?_
          repeat array_get_dec
          refine t2_itemL (k := done.length) .z rfl (by omega) (by omega) hp ?_
          refine tU_setK (k := keyP p) (by sizeOf_list_dec) hF rfl (by rw [List.length_map]; exact Nat.le_trans (Nat.le_of_lt hdl) (by decide)) ?_
          rw [putK_map_new (fun _ _ => keyP_inj) (fun p => D.int (numOf pts p)) p _ done hpd]
          repeat array_get_dec
          refine ⟨?_, done ++ [p], todo, by rw [e1]; simp, by rw [List.length_append]; exact e2, ?_, d6.put hf2 hf2a⟩
          · exact less_of (by kernel_rfl)
          · rw [hput_self, List.map_append (f := fun p => D.int (numOf pts p)), ← numOf_at hnd e1]; rfl
    · rintro Q' d ds σ H' ⟨hS, i, m, bs, e3, e4, hbl, hbk, hF, d3⟩
      cases m with
      | zero => cases e3
      | succ m =>
        rw [List.range'_succ] at e3
        injection e3 with e1 e3
        subst e1
        refine tA_cell (by with_unfolding_all rfl) (by with_unfolding_all rfl) ?_
        refine tS.less (σ' := sput S0 "block" (.int i)) ?_ hS.both
        refine tS_cons (tX_AssignCompB (by with_unfolding_all rfl) (by with_unfolding_all rfl) (by with_unfolding_all rfl) (by intro _; with_unfolding_all rfl) (by with_unfolding_all rfl) ?_)
        repeat array_get_dec
        refine c_take (by sizeOf_list_dec) d3.src (by decide) fun n H4 n0 n1 d4 => ?_
        obtain ⟨n, rfl⟩ := Int.eq_ofNat_of_zero_le n0
        repeat array_get_dec
        refine tC_range ?_
        refine tIt_rng (n := n) (by sizeOf_list_dec) (by omega) ?_
        refine ⟨by rw [List.length_map, List.length_range]; exact Nat.le_trans (m := 5) (by omega) (by decide), fun C => LC_draw (a := a) (fun i : Nat => D.int i) (P := fun d => ∃ s : GoodSt, d = s.s.d) rfl d4.src ?_ ?_⟩
        · intro j _ H5 d5
          repeat array_get_dec
          refine c_stmt (by sizeOf_list_dec) d5.src fun st H6 ho d6 => ?_
          exact ⟨d6, ⟨st, ho⟩, rfl⟩
        · intro acc H5 hlen hacc d5
          obtain ⟨rs, rfl⟩ := rows_of (f := fun g : GoodSt => g.s.d) (fun _ h => h) hacc
          rw [List.length_map, List.length_range] at hlen
          repeat array_get_dec
          have hF5 := d5.ext f _ hfa (d4.ext f _ hfa hF)
          refine tG_append hF5 ?_
          repeat array_get_dec
          refine c_end (by sizeOf_list_dec) d5.src ⟨by omega, by omega⟩ fun en H6 ho hto d6 => ?_
          have hF6 := d6.ext f _ hfa hF5
          repeat array_get_dec
          refine tC_append hF6 (by rw [List.length_map]; exact Nat.le_trans (m := 4) (by omega) (by decide)) ?_
          have eB : D.lst (bs.map Bk.d ++ [.lst [.lst (rs.map fun g => g.s.d), en.d]]) = .lst ((bs ++ [Bk.mk (rs.map GoodSt.s) en]).map Bk.d) := by
            rw [unwrap_st, List.map_append]; rfl
          rw [eB]
          repeat array_get_dec
          refine ⟨?_, i + 1, m, bs ++ [Bk.mk (rs.map GoodSt.s) en], e3, by omega, by rw [List.length_append, hbl]; rfl, ?_, hput_self, (((d3.trans d4).trans d5).trans d6).put hf hfa⟩
          · exact less_of (by kernel_rfl)
          · intro k hk
            rcases List.mem_append.mp hk with q | q
            · exact hbk k q
            · rw [List.mem_singleton] at q; subst q
              refine ⟨fun s hs => ?_, ho, ?_, hto⟩
              · obtain ⟨g, _, rfl⟩ := List.mem_map.mp hs; exact g.ok
              · show (rs.map GoodSt.s).length < 4
                rw [List.length_map]; omega
    · exact less_of (by kernel_rfl)
end

end

noncomputable section
section
theorem finish {X : Cx} {A : Around} {name : Str} {scope : Scope} {fa l : Addr} {cd : Value} {body : List Stmt} {h₁ : Heap} {m : Str → Option Value} {s₁ : Shared} {P : Flow → Shared → Prop} {E : Value → Shared → Prop} {tk : Nat}
    (hb : X.base = s₁.heap) (F : Fr s₁.heap s₁.heap.objs.size h₁ m) (hm : m "script" = some (.ref l)) (hk : scope.kind = .function)
    (ht : tS X A (envOf name scope s₁.heap.objs.size fa cd) body (sto0 ["script"] [.raw (.ref l)]) (fun _ => none) (fun fl _ _ => fl = .ret (.bool true)))
    (hP : ∀ s' : Shared, (∀ b o, s₁.heap.get? b = some o → s'.heap.get? b = some o) → s'.os = s₁.os → s'.gens = s₁.gens → P (.ret (.bool true)) s') :
    wpAny X.M A (execs body (envOf name scope s₁.heap.objs.size fa cd)) P E { s₁ with heap := h₁, toks := tk } := by
  have i : Inv X { s₁ with heap := h₁, toks := tk } (fun _ => none) (fun _ => none) (envOf name scope s₁.heap.objs.size fa cd) (sto0 ["script"] [.raw (.ref l)]) := by
    refine ⟨⟨fun b o e => F.keep b o (hb ▸ e), fun _ _ e => (by cases e), fun _ _ e => (by cases e), fun _ h => (h rfl).elim, fun _ h => (h.elim (fun h => (h rfl).elim) fun h => (h rfl).elim)⟩, ⟨hk, rfl, rfl, fun _ _ _ e => (by cases e), fun _ _ e => (by cases e)⟩, ⟨m, F.ns, fun x _ => ?_⟩, fun x c e => (by cases e), fun a ha => ?_⟩
    · by_cases q : x = "script"
      · subst q; rw [hm]; exact .some (.raw _)
      · have : sto0 ["script"] [D.raw (.ref l)] x = none := by
          show List.lookup x [(("script" : Str), D.raw (.ref l))] = none
          rw [List.lookup_cons]
          have : (x == ("script" : Str)) = false := by simpa using q
          rw [this]; rfl
        rw [this]; exact .none
    · rcases ha with rfl | ⟨x, e⟩
      · exact ⟨rfl, rfl, by rw [hb]; exact Heap.get?_none_of_le (Nat.le_refl _)⟩
      · cases e
  refine wpAny_mono (ht _ _ i) (fun fl s' p => ?_) fun _ _ f => f.elim
  obtain ⟨Z', H', σ', f', e', i', r', rfl⟩ := p
  cases r' with
  | ret r =>
    rw [r.toBool]
    obtain ⟨_, _, hs⟩ := e'.same
    refine hP s' (fun b o e => i'.ok.base b o (hb ▸ e)) ?_ ?_
    · rw [hs]
    · rw [hs]
theorem room0 : Room callerA 9 := ⟨rfl, by decide, by decide⟩
end

end

noncomputable section
section
variable {X : Cx} {A : Around} {H : Hp} {env : Env} {σ : Sto}
theorem c_law {L fa l : Addr} {cd : Value} {nm : Str} (hr : Room A 8) (hs : Script X l) : tS X (A.deeper (envOf nm F34.2.2 L fa cd)) (envOf nm F34.2.2 L fa cd) F34.2.1 (sto0 ["script"] [.raw (.ref l)]) (fun _ => none) (fun fl _ _ => fl = .ret (.bool true)) := by
  repeat array_get_dec
  refine c_meets (a := .field 1) (b := .field 1) (by sizeOf_list_dec) ?_
  repeat array_get_dec
  refine c_meets (a := .field 1) (b := .field 2) (by sizeOf_list_dec) ?_
  repeat array_get_dec
  refine c_pool (by sizeOf_list_dec) hs fun a s ha => ?_
  have hs1 : ∃ t : Src, hput (fun _ => none) a s.d a = some t.d := ⟨s, hput_self⟩
  generalize hput (fun _ => none) a s.d = H1 at hs1 ⊢
  repeat array_get_dec
  refine c_steps (by sizeOf_list_dec) hs1 fun H2 d2 => ?_
  repeat array_get_dec
  refine c_scopes (by sizeOf_list_dec) d2.src fun H3 => ?_
  repeat array_get_dec
  rfl
end

end

end Mine
end
section
open PySem PySem.W PySem.Calls PyProof.Rows

set_option maxHeartbeats 0 in
theorem PySem.Challenge.cw_xm0588_01_holds : PySem.Challenge.rw_xm0588_01.Holds := by
  refine holds_law Mine.said fun said => ?_
  refine holds_open (q := Mine.view) (loose := []) (Xt := fun s => xlAt Mine.view [] s && recOk (RowW.records Challenge.rw_xm0588_01.row.toRowW) s) (XP := XL Mine.view []) (Yf := Hook.obs Mine.hook) (Ya := Hook.val Mine.hook) (YP := Hook.says Mine.hook) (N := 3120) ?hl (Hook.of Mine.hook) (Hook.keeps Mine.hook) (fun s e => xl_of s (Bool.and_eq_true_iff.mp e).1) XL.keeps (by rfl) (by rfl) (by rfl) (fun s e => recFacts_of (Bool.and_eq_true_iff.mp e).2) (by rfl) (by assumption) (by decide +kernel) ⟨rfl, rfl, rfl, rfl, rfl, by decide +kernel⟩ ?hw ?hc
  case hw => w_witness2
  case hl => intro w; kernel_rfl
  case hc =>
    intro w s₀ s₁ mg mb G Y fa o pm cd doc dV kV ho hd hcd hD hmg hg args vals as hpre hlay hrd hwl hlo
    have KX := kIn_of Y
    refine Ground.open G ?_
    intro T B D TE TW
    try (refine guard_noD D (by decide +kernel) ?_; clear D)
    obtain ⟨_, _, M⟩ := bmod_of_top T
    try (obtain ⟨_, _, he, B0⟩ := based_of_top T rfl hmg ho hd; have he' : cd = _ := he; subst he'; clear he)
    clear hmg
    wrow_args hpre hlay hrd hwl hlo
    all_goals (
      first | refine callC_kw (enter_call ?_) | refine enter_call ?_ | refine callC_kw (enter_callW ?_) | refine enter_callW ?_
      w_top on
      try refine codeAny_mono ?_ (fun _ _ g => GoodW.toG g)
      have K0 := below_caller (Top.heap T)
      w_call any ho hd hcd hD T F)
    rename Heap.IsList _ _ _ => hL
    rename IntsAre _ _ => hI
    rename ¬ _ < _ => hc
    have hlen := hI.length
    refine Mine.finish (X := ⟨_, _, _, _, _, KX, T.g, T.b, T.nolimit, T.builtins⟩) rfl F rfl rfl ?_ ?_
    · exact Mine.c_law (Mine.room0.le (by decide)) ⟨_, _, hL, hI, by simp only [List.size_toArray]; omega⟩
    · intro s' h1 h2 h3
      refine ⟨.inl ⟨.bool true, .bool true, [], rfl, fun _ => rfl, .bool _, ?_, fun h => ⟨.nil, by simp⟩⟩, h1, h2, h3.trans hg⟩
      generalize [ofPy _] = args
      with_unfolding_all rfl

end
