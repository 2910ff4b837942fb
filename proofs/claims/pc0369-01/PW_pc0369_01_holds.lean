import PyProof.Rows.All
import Wide.All
import OpenK.AllK
import Wide.FinOn
import PySem.Challenge.RW_pc0369_01
open PySem PySem.W PyProof.Rows PySem.Spec PySem.Calls PyProof.V PySem.SeqAt
set_option Elab.async false
set_option compiler.extract_closed false
set_option maxRecDepth 100000
set_option rowWalk.seconds 0
namespace Mine
structure Look where
  params : Arguments
  body : List Stmt
  scope : Scope
noncomputable def dl : Look := ⟨⟨[], [], none, [], [], none, []⟩, [], ⟨.function, [], false, false, []⟩⟩
noncomputable def nth : List Stmt → Nat → List Stmt
  | [], _ => []
  | x :: _, 0 => [x]
  | _ :: r, n + 1 => nth r n
noncomputable def fdOf : List Stmt → Look
  | .FunctionDef _ p b _ _ _ s _ _ _ :: _ => ⟨p, b, s⟩
  | _ => dl
noncomputable def cdOf : List Stmt → List Stmt
  | .ClassDef _ _ _ b _ _ _ _ _ _ _ :: _ => b
  | _ => []
noncomputable def cat : List Stmt → List Stmt → List Stmt
  | [], r => r
  | x :: l, r => x :: cat l r
structure Is {α : Type} (a b : α) : Prop where
  h : a = b
noncomputable def L21 : Look := by
  apply (?g : (x : Look) → Is (fdOf (nth PySem.Challenge.pw_pc0369_01.main.body 0)) x → Look)
  case a => (dsimp only [PySem.Challenge.pw_pc0369_01, nth, fdOf, cdOf]; exact ⟨rfl⟩)
  exact fun x _ => x
noncomputable def L35 : Look := by
  apply (?g : (x : Look) → Is (fdOf (nth (cdOf (nth PySem.Challenge.pw_pc0369_01.main.body 2)) 0)) x → Look)
  case a => (dsimp only [PySem.Challenge.pw_pc0369_01, nth, fdOf, cdOf]; exact ⟨rfl⟩)
  exact fun x _ => x
noncomputable def L56 : Look := by
  apply (?g : (x : Look) → Is (fdOf (nth (cdOf (nth PySem.Challenge.pw_pc0369_01.main.body 3)) 0)) x → Look)
  case a => (dsimp only [PySem.Challenge.pw_pc0369_01, nth, fdOf, cdOf]; exact ⟨rfl⟩)
  exact fun x _ => x
noncomputable def L75 : Look := by
  apply (?g : (x : Look) → Is (fdOf (nth (cdOf (nth PySem.Challenge.pw_pc0369_01.main.body 5)) 0)) x → Look)
  case a => (dsimp only [PySem.Challenge.pw_pc0369_01, nth, fdOf, cdOf]; exact ⟨rfl⟩)
  exact fun x _ => x
noncomputable def L82 : Look := by
  apply (?g : (x : Look) → Is (fdOf (nth (cdOf (nth PySem.Challenge.pw_pc0369_01.main.body 5)) 1)) x → Look)
  case a => (dsimp only [PySem.Challenge.pw_pc0369_01, nth, fdOf, cdOf]; exact ⟨rfl⟩)
  exact fun x _ => x
noncomputable def L89 : Look := by
  apply (?g : (x : Look) → Is (fdOf (nth (cdOf (nth PySem.Challenge.pw_pc0369_01.main.body 5)) 2)) x → Look)
  case a => (dsimp only [PySem.Challenge.pw_pc0369_01, nth, fdOf, cdOf]; exact ⟨rfl⟩)
  exact fun x _ => x
noncomputable def L96 : Look := by
  apply (?g : (x : Look) → Is (fdOf (nth (cdOf (nth PySem.Challenge.pw_pc0369_01.main.body 5)) 3)) x → Look)
  case a => (dsimp only [PySem.Challenge.pw_pc0369_01, nth, fdOf, cdOf]; exact ⟨rfl⟩)
  exact fun x _ => x
noncomputable def L103 : Look := by
  apply (?g : (x : Look) → Is (fdOf (nth (cdOf (nth PySem.Challenge.pw_pc0369_01.main.body 5)) 4)) x → Look)
  case a => (dsimp only [PySem.Challenge.pw_pc0369_01, nth, fdOf, cdOf]; exact ⟨rfl⟩)
  exact fun x _ => x
noncomputable def L117 : Look := by
  apply (?g : (x : Look) → Is (fdOf (nth PySem.Challenge.pw_pc0369_01.main.body 6)) x → Look)
  case a => (dsimp only [PySem.Challenge.pw_pc0369_01, nth, fdOf, cdOf]; exact ⟨rfl⟩)
  exact fun x _ => x
noncomputable def L124 : Look := by
  apply (?g : (x : Look) → Is (fdOf (nth PySem.Challenge.pw_pc0369_01.main.body 9)) x → Look)
  case a => (dsimp only [PySem.Challenge.pw_pc0369_01, nth, fdOf, cdOf]; exact ⟨rfl⟩)
  exact fun x _ => x
noncomputable def L136 : Look := by
  apply (?g : (x : Look) → Is (fdOf (nth (cdOf (nth PySem.Challenge.pw_pc0369_01.main.body 10)) 0)) x → Look)
  case a => (dsimp only [PySem.Challenge.pw_pc0369_01, nth, fdOf, cdOf]; exact ⟨rfl⟩)
  exact fun x _ => x
noncomputable def L143 : Look := by
  apply (?g : (x : Look) → Is (fdOf (nth (cdOf (nth PySem.Challenge.pw_pc0369_01.main.body 10)) 1)) x → Look)
  case a => (dsimp only [PySem.Challenge.pw_pc0369_01, nth, fdOf, cdOf]; exact ⟨rfl⟩)
  exact fun x _ => x
noncomputable def L149 : Look := by
  apply (?g : (x : Look) → Is (fdOf (nth (cdOf (nth PySem.Challenge.pw_pc0369_01.main.body 10)) 2)) x → Look)
  case a => (dsimp only [PySem.Challenge.pw_pc0369_01, nth, fdOf, cdOf]; exact ⟨rfl⟩)
  exact fun x _ => x
noncomputable def L157 : Look := by
  apply (?g : (x : Look) → Is (fdOf (nth (cdOf (nth PySem.Challenge.pw_pc0369_01.main.body 10)) 3)) x → Look)
  case a => (dsimp only [PySem.Challenge.pw_pc0369_01, nth, fdOf, cdOf]; exact ⟨rfl⟩)
  exact fun x _ => x
noncomputable def L162 : Look := by
  apply (?g : (x : Look) → Is (fdOf (nth (cdOf (nth PySem.Challenge.pw_pc0369_01.main.body 10)) 4)) x → Look)
  case a => (dsimp only [PySem.Challenge.pw_pc0369_01, nth, fdOf, cdOf]; exact ⟨rfl⟩)
  exact fun x _ => x
noncomputable def L183 : Look := by
  apply (?g : (x : Look) → Is (fdOf (nth (cdOf (nth PySem.Challenge.pw_pc0369_01.main.body 11)) 0)) x → Look)
  case a => (dsimp only [PySem.Challenge.pw_pc0369_01, nth, fdOf, cdOf]; exact ⟨rfl⟩)
  exact fun x _ => x
noncomputable def L190 : Look := by
  apply (?g : (x : Look) → Is (fdOf (nth (cdOf (nth PySem.Challenge.pw_pc0369_01.main.body 11)) 1)) x → Look)
  case a => (dsimp only [PySem.Challenge.pw_pc0369_01, nth, fdOf, cdOf]; exact ⟨rfl⟩)
  exact fun x _ => x
noncomputable def L211 : Look := by
  apply (?g : (x : Look) → Is (fdOf (nth (cdOf (nth PySem.Challenge.pw_pc0369_01.main.body 12)) 0)) x → Look)
  case a => (dsimp only [PySem.Challenge.pw_pc0369_01, nth, fdOf, cdOf]; exact ⟨rfl⟩)
  exact fun x _ => x
noncomputable def L218 : Look := by
  apply (?g : (x : Look) → Is (fdOf (nth (cdOf (nth PySem.Challenge.pw_pc0369_01.main.body 12)) 1)) x → Look)
  case a => (dsimp only [PySem.Challenge.pw_pc0369_01, nth, fdOf, cdOf]; exact ⟨rfl⟩)
  exact fun x _ => x
noncomputable def L225 : Look := by
  apply (?g : (x : Look) → Is (fdOf (nth (cdOf (nth PySem.Challenge.pw_pc0369_01.main.body 12)) 2)) x → Look)
  case a => (dsimp only [PySem.Challenge.pw_pc0369_01, nth, fdOf, cdOf]; exact ⟨rfl⟩)
  exact fun x _ => x
noncomputable def L239 : Look := by
  apply (?g : (x : Look) → Is (fdOf (nth PySem.Challenge.pw_pc0369_01.main.body 14)) x → Look)
  case a => (dsimp only [PySem.Challenge.pw_pc0369_01, nth, fdOf, cdOf]; exact ⟨rfl⟩)
  exact fun x _ => x
noncomputable def L246 : Look := by
  apply (?g : (x : Look) → Is (fdOf (nth PySem.Challenge.pw_pc0369_01.main.body 15)) x → Look)
  case a => (dsimp only [PySem.Challenge.pw_pc0369_01, nth, fdOf, cdOf]; exact ⟨rfl⟩)
  exact fun x _ => x
noncomputable def L253 : Look := by
  apply (?g : (x : Look) → Is (fdOf (nth PySem.Challenge.pw_pc0369_01.main.body 16)) x → Look)
  case a => (dsimp only [PySem.Challenge.pw_pc0369_01, nth, fdOf, cdOf]; exact ⟨rfl⟩)
  exact fun x _ => x
noncomputable def L260 : Look := by
  apply (?g : (x : Look) → Is (fdOf (nth PySem.Challenge.pw_pc0369_01.main.body 17)) x → Look)
  case a => (dsimp only [PySem.Challenge.pw_pc0369_01, nth, fdOf, cdOf]; exact ⟨rfl⟩)
  exact fun x _ => x
noncomputable def L267 : Look := by
  apply (?g : (x : Look) → Is (fdOf (nth PySem.Challenge.pw_pc0369_01.main.body 18)) x → Look)
  case a => (dsimp only [PySem.Challenge.pw_pc0369_01, nth, fdOf, cdOf]; exact ⟨rfl⟩)
  exact fun x _ => x
noncomputable def L272 : Look := by
  apply (?g : (x : Look) → Is (fdOf (nth PySem.Challenge.pw_pc0369_01.main.body 19)) x → Look)
  case a => (dsimp only [PySem.Challenge.pw_pc0369_01, nth, fdOf, cdOf]; exact ⟨rfl⟩)
  exact fun x _ => x
noncomputable def L279 : Look := by
  apply (?g : (x : Look) → Is (fdOf (nth PySem.Challenge.pw_pc0369_01.main.body 20)) x → Look)
  case a => (dsimp only [PySem.Challenge.pw_pc0369_01, nth, fdOf, cdOf]; exact ⟨rfl⟩)
  exact fun x _ => x
noncomputable def L284 : Look := by
  apply (?g : (x : Look) → Is (fdOf (nth PySem.Challenge.pw_pc0369_01.main.body 21)) x → Look)
  case a => (dsimp only [PySem.Challenge.pw_pc0369_01, nth, fdOf, cdOf]; exact ⟨rfl⟩)
  exact fun x _ => x
noncomputable def L289 : Look := by
  apply (?g : (x : Look) → Is (fdOf (nth PySem.Challenge.pw_pc0369_01.main.body 22)) x → Look)
  case a => (dsimp only [PySem.Challenge.pw_pc0369_01, nth, fdOf, cdOf]; exact ⟨rfl⟩)
  exact fun x _ => x
noncomputable def L294 : Look := by
  apply (?g : (x : Look) → Is (fdOf (nth PySem.Challenge.pw_pc0369_01.main.body 23)) x → Look)
  case a => (dsimp only [PySem.Challenge.pw_pc0369_01, nth, fdOf, cdOf]; exact ⟨rfl⟩)
  exact fun x _ => x
noncomputable def L301 : Look := by
  apply (?g : (x : Look) → Is (fdOf (nth PySem.Challenge.pw_pc0369_01.main.body 24)) x → Look)
  case a => (dsimp only [PySem.Challenge.pw_pc0369_01, nth, fdOf, cdOf]; exact ⟨rfl⟩)
  exact fun x _ => x
noncomputable def L306 : Look := by
  apply (?g : (x : Look) → Is (fdOf (nth PySem.Challenge.pw_pc0369_01.main.body 25)) x → Look)
  case a => (dsimp only [PySem.Challenge.pw_pc0369_01, nth, fdOf, cdOf]; exact ⟨rfl⟩)
  exact fun x _ => x
noncomputable def hK : Params → Frag := fun P =>
  (nat_lit 2, { cls := PySem.Value.none, data := PySem.Data.dict #[{ hash := PySem.PyData.keyHash P (PySem.Str.ofString "type.__subclasses__.Exception.0"), key := PySem.Value.str (PySem.Str.ofString "type.__subclasses__.Exception.0") 221, val := PySem.Value.int 38 0 }, { hash := PySem.PyData.keyHash P (PySem.Str.ofString "type.__subclasses__.Exception.n"), key := PySem.Value.str (PySem.Str.ofString "type.__subclasses__.Exception.n") 222, val := PySem.Value.int 1 0 }] 2 }) ::
  (nat_lit 3, { cls := PySem.Value.type "dict", data := PySem.Data.dict #[{ hash := PySem.PyData.keyHash P (PySem.Str.ofString "__name__"), key := PySem.Value.str (PySem.Str.ofString "__name__") 165, val := PySem.Value.str (PySem.Str.ofString "law_pc0369_01") 494 }, { hash := PySem.PyData.keyHash P (PySem.Str.ofString "__doc__"), key := PySem.Value.str (PySem.Str.ofString "__doc__") 166, val := PySem.Value.none }, { hash := PySem.PyData.keyHash P (PySem.Str.ofString "__package__"), key := PySem.Value.str (PySem.Str.ofString "__package__") 167, val := PySem.Value.none }, { hash := PySem.PyData.keyHash P (PySem.Str.ofString "__loader__"), key := PySem.Value.str (PySem.Str.ofString "__loader__") 168, val := PySem.Value.builtin "__main__.__loader__#opaque" }, { hash := PySem.PyData.keyHash P (PySem.Str.ofString "__spec__"), key := PySem.Value.str (PySem.Str.ofString "__spec__") 169, val := PySem.Value.none }, { hash := PySem.PyData.keyHash P (PySem.Str.ofString "__annotations__"), key := PySem.Value.str (PySem.Str.ofString "__annotations__") 170, val := PySem.Value.ref 6 }, { hash := PySem.PyData.keyHash P (PySem.Str.ofString "__builtins__"), key := PySem.Value.str (PySem.Str.ofString "__builtins__") 171, val := PySem.Value.ref 4 }, { hash := PySem.PyData.keyHash P (PySem.Str.ofString "__file__"), key := PySem.Value.str (PySem.Str.ofString "__file__") 173, val := PySem.Value.str (PySem.Str.ofString "/claim/cut.py") 172 }, { hash := PySem.PyData.keyHash P (PySem.Str.ofString "__cached__"), key := PySem.Value.str (PySem.Str.ofString "__cached__") 174, val := PySem.Value.none }, { hash := PySem.PyData.keyHash P (PySem.Str.ofString "_wall"), key := PySem.Value.str (PySem.Str.ofString "_wall") 193, val := PySem.Value.ref 21 }, { hash := PySem.PyData.keyHash P (PySem.Str.ofString "SwitchError"), key := PySem.Value.str (PySem.Str.ofString "SwitchError") 224, val := PySem.Value.ref 38 }, { hash := PySem.PyData.keyHash P (PySem.Str.ofString "SettingError"), key := PySem.Value.str (PySem.Str.ofString "SettingError") 251, val := PySem.Value.ref 59 }, { hash := PySem.PyData.keyHash P (PySem.Str.ofString "QueueRow"), key := PySem.Value.str (PySem.Str.ofString "QueueRow") 318, val := PySem.Value.ref 106 }, { hash := PySem.PyData.keyHash P (PySem.Str.ofString "may_go"), key := PySem.Value.str (PySem.Str.ofString "may_go") 327, val := PySem.Value.ref 117 }, { hash := PySem.PyData.keyHash P (PySem.Str.ofString "SHARES"), key := PySem.Value.str (PySem.Str.ofString "SHARES") 331, val := PySem.Value.int 10000 330 }, { hash := PySem.PyData.keyHash P (PySem.Str.ofString "least_multiple"), key := PySem.Value.str (PySem.Str.ofString "least_multiple") 342, val := PySem.Value.ref 124 }, { hash := PySem.PyData.keyHash P (PySem.Str.ofString "WeightedFair"), key := PySem.Value.str (PySem.Str.ofString "WeightedFair") 405, val := PySem.Value.ref 165 }, { hash := PySem.PyData.keyHash P (PySem.Str.ofString "AverageLevel"), key := PySem.Value.str (PySem.Str.ofString "AverageLevel") 443, val := PySem.Value.ref 193 }, { hash := PySem.PyData.keyHash P (PySem.Str.ofString "DropCurve"), key := PySem.Value.str (PySem.Str.ofString "DropCurve") 493, val := PySem.Value.ref 228 }, { hash := PySem.PyData.keyHash P (PySem.Str.ofString "_law_source"), key := PySem.Value.str (PySem.Str.ofString "_law_source") 503, val := PySem.Value.ref 239 }, { hash := PySem.PyData.keyHash P (PySem.Str.ofString "_law_next"), key := PySem.Value.str (PySem.Str.ofString "_law_next") 512, val := PySem.Value.ref 246 }, { hash := PySem.PyData.keyHash P (PySem.Str.ofString "_law_pick"), key := PySem.Value.str (PySem.Str.ofString "_law_pick") 520, val := PySem.Value.ref 253 }, { hash := PySem.PyData.keyHash P (PySem.Str.ofString "_law_less"), key := PySem.Value.str (PySem.Str.ofString "_law_less") 528, val := PySem.Value.ref 260 }, { hash := PySem.PyData.keyHash P (PySem.Str.ofString "_law_greater_of"), key := PySem.Value.str (PySem.Str.ofString "_law_greater_of") 536, val := PySem.Value.ref 267 }, { hash := PySem.PyData.keyHash P (PySem.Str.ofString "_law_put"), key := PySem.Value.str (PySem.Str.ofString "_law_put") 542, val := PySem.Value.ref 272 }, { hash := PySem.PyData.keyHash P (PySem.Str.ofString "_law_taken"), key := PySem.Value.str (PySem.Str.ofString "_law_taken") 556, val := PySem.Value.ref 279 }, { hash := PySem.PyData.keyHash P (PySem.Str.ofString "_law_deeds_right"), key := PySem.Value.str (PySem.Str.ofString "_law_deeds_right") 562, val := PySem.Value.ref 284 }, { hash := PySem.PyData.keyHash P (PySem.Str.ofString "_law_bound_right"), key := PySem.Value.str (PySem.Str.ofString "_law_bound_right") 568, val := PySem.Value.ref 289 }, { hash := PySem.PyData.keyHash P (PySem.Str.ofString "_law_curve_right"), key := PySem.Value.str (PySem.Str.ofString "_law_curve_right") 574, val := PySem.Value.ref 294 }, { hash := PySem.PyData.keyHash P (PySem.Str.ofString "_law_refused"), key := PySem.Value.str (PySem.Str.ofString "_law_refused") 581, val := PySem.Value.ref 301 }, { hash := PySem.PyData.keyHash P (PySem.Str.ofString "law"), key := PySem.Value.str (PySem.Str.ofString "law") 587, val := PySem.Value.ref 306 }] 31 }) ::
  (nat_lit 15, { cls := PySem.Value.type "tuple", data := PySem.Data.seq #[] }) ::
  (nat_lit 17, { cls := PySem.Value.type "tuple", data := PySem.Data.seq #[PySem.Value.str (PySem.Str.ofString "k") 190] }) ::
  (nat_lit 18, { cls := PySem.Value.type "tuple", data := PySem.Data.seq #[] }) ::
  (nat_lit 20, { cls := PySem.Value.type "code", data := PySem.Data.fields #[PySem.Value.str (PySem.Str.ofString "_wall") 187, PySem.Value.str (PySem.Str.ofString "_wall") 188, PySem.Value.str (PySem.Str.ofString "/claim/cut.py") 189, PySem.Value.int 1 0, PySem.Value.int 1 0, PySem.Value.int 0 0, PySem.Value.int 0 0, PySem.Value.int 3 0, PySem.Value.ref 15, PySem.Value.bool Bool.true, PySem.Value.int 181 0, PySem.Value.ref 16, PySem.Value.none, PySem.Value.ref 17, PySem.Value.ref 18, PySem.Value.ref 19, PySem.Value.int 191 0, PySem.Value.int 1 0, PySem.Value.str (PySem.Str.ofString "/claim/cut.py") 192] }) ::
  (nat_lit 21, { cls := PySem.Value.type "function", data := PySem.Data.func { name := PySem.Str.ofString "_wall", qualname := PySem.Str.ofString "_wall", params := (by apply (?gparamsL21 : (x : Arguments) → Is L21.params x → Arguments); (case a => (dsimp only [L21]; exact ⟨rfl⟩)); exact fun x _ => x), body := PySem.FuncBody.stmts (by apply (?gbodyL21 : (x : List Stmt) → Is L21.body x → List Stmt); (case a => (dsimp only [L21]; exact ⟨rfl⟩)); exact fun x _ => x), scope := (by apply (?gscopeL21 : (x : Scope) → Is L21.scope x → Scope); (case a => (dsimp only [L21]; exact ⟨rfl⟩)); exact fun x _ => x), globals := 3, closure := [], defaults := PySem.Value.none, kwdefaults := PySem.Value.none, pyModule := PySem.Value.str (PySem.Str.ofString "__main__") 164, code := PySem.Value.ref 20 } }) ::
  (nat_lit 22, { cls := PySem.Value.type "tuple", data := PySem.Data.seq #[PySem.Value.type "Exception"] }) ::
  (nat_lit 29, { cls := PySem.Value.type "tuple", data := PySem.Data.seq #[] }) ::
  (nat_lit 31, { cls := PySem.Value.type "tuple", data := PySem.Data.seq #[PySem.Value.str (PySem.Str.ofString "self") 211, PySem.Value.str (PySem.Str.ofString "message") 212] }) ::
  (nat_lit 32, { cls := PySem.Value.type "tuple", data := PySem.Data.seq #[] }) ::
  (nat_lit 34, { cls := PySem.Value.type "code", data := PySem.Data.fields #[PySem.Value.str (PySem.Str.ofString "__init__") 208, PySem.Value.str (PySem.Str.ofString "SwitchError.__init__") 209, PySem.Value.str (PySem.Str.ofString "/claim/cut.py") 210, PySem.Value.int 7 0, PySem.Value.int 2 0, PySem.Value.int 0 0, PySem.Value.int 0 0, PySem.Value.int 3 0, PySem.Value.ref 29, PySem.Value.bool Bool.true, PySem.Value.int 181 0, PySem.Value.ref 30, PySem.Value.none, PySem.Value.ref 31, PySem.Value.ref 32, PySem.Value.ref 33, PySem.Value.int 213 0, PySem.Value.int 7 0, PySem.Value.str (PySem.Str.ofString "/claim/cut.py") 214] }) ::
  (nat_lit 35, { cls := PySem.Value.type "function", data := PySem.Data.func { name := PySem.Str.ofString "__init__", qualname := PySem.Str.ofString "SwitchError.__init__", params := (by apply (?gparamsL35 : (x : Arguments) → Is L35.params x → Arguments); (case a => (dsimp only [L35]; exact ⟨rfl⟩)); exact fun x _ => x), body := PySem.FuncBody.stmts (by apply (?gbodyL35 : (x : List Stmt) → Is L35.body x → List Stmt); (case a => (dsimp only [L35]; exact ⟨rfl⟩)); exact fun x _ => x), scope := (by apply (?gscopeL35 : (x : Scope) → Is L35.scope x → Scope); (case a => (dsimp only [L35]; exact ⟨rfl⟩)); exact fun x _ => x), globals := 3, closure := [], defaults := PySem.Value.none, kwdefaults := PySem.Value.none, pyModule := PySem.Value.str (PySem.Str.ofString "switchloom.errors") 194, code := PySem.Value.ref 34 } }) ::
  (nat_lit 36, { cls := PySem.Value.type "tuple", data := PySem.Data.seq #[PySem.Value.str (PySem.Str.ofString "message") 216] }) ::
  (nat_lit 37, { cls := PySem.Value.type "dict", data := PySem.Data.dict #[{ hash := PySem.PyData.keyHash P (PySem.Str.ofString "__module__"), key := PySem.Value.str (PySem.Str.ofString "__module__") 203, val := PySem.Value.str (PySem.Str.ofString "switchloom.errors") 194 }, { hash := PySem.PyData.keyHash P (PySem.Str.ofString "__firstlineno__"), key := PySem.Value.str (PySem.Str.ofString "__firstlineno__") 207, val := PySem.Value.int 5 206 }, { hash := PySem.PyData.keyHash P (PySem.Str.ofString "__init__"), key := PySem.Value.str (PySem.Str.ofString "__init__") 215, val := PySem.Value.ref 35 }, { hash := PySem.PyData.keyHash P (PySem.Str.ofString "__static_attributes__"), key := PySem.Value.str (PySem.Str.ofString "__static_attributes__") 217, val := PySem.Value.ref 36 }, { hash := PySem.PyData.keyHash P (PySem.Str.ofString "__weakref__"), key := PySem.Value.str (PySem.Str.ofString "__weakref__") 219, val := PySem.Value.ref 39 }, { hash := PySem.PyData.keyHash P (PySem.Str.ofString "__doc__"), key := PySem.Value.str (PySem.Str.ofString "__doc__") 220, val := PySem.Value.none }] 3 }) ::
  (nat_lit 38, { cls := PySem.Value.type "type", data := PySem.Data.cls { name := PySem.Str.ofString "SwitchError", bases := [PySem.Value.type "Exception"], mro := [PySem.Value.ref 38, PySem.Value.type "Exception", PySem.Value.type "BaseException", PySem.Value.type "object"], ns := 37, qualname := PySem.Str.ofString "SwitchError", subclasses := [PySem.Value.ref 59] }, slots := #[Option.some (PySem.Value.ref 22), Option.none, Option.some (PySem.Value.str (PySem.Str.ofString "SwitchError") 196), Option.some (PySem.Value.str (PySem.Str.ofString "SwitchError") 204), Option.some (PySem.Value.builtin "Exception.__new__"), Option.some (PySem.Value.bool Bool.true)] }) ::
  (nat_lit 39, { cls := PySem.Value.type "getset_descriptor", data := PySem.Data.fields #[PySem.Value.str (PySem.Str.ofString "__weakref__") 218, PySem.Value.ref 38, PySem.Value.builtin "ExceptionGroup.__weakref__", PySem.Value.none] }) ::
  (nat_lit 42, { cls := PySem.Value.type "tuple", data := PySem.Data.seq #[PySem.Value.ref 38] }) ::
  (nat_lit 49, { cls := PySem.Value.type "tuple", data := PySem.Data.seq #[PySem.Value.int 0 237] }) ::
  (nat_lit 50, { cls := PySem.Value.type "tuple", data := PySem.Data.seq #[] }) ::
  (nat_lit 52, { cls := PySem.Value.type "tuple", data := PySem.Data.seq #[PySem.Value.str (PySem.Str.ofString "self") 241, PySem.Value.str (PySem.Str.ofString "message") 242, PySem.Value.str (PySem.Str.ofString "row") 243] }) ::
  (nat_lit 53, { cls := PySem.Value.type "tuple", data := PySem.Data.seq #[] }) ::
  (nat_lit 55, { cls := PySem.Value.type "code", data := PySem.Data.fields #[PySem.Value.str (PySem.Str.ofString "__init__") 238, PySem.Value.str (PySem.Str.ofString "SettingError.__init__") 239, PySem.Value.str (PySem.Str.ofString "/claim/cut.py") 240, PySem.Value.int 12 0, PySem.Value.int 3 0, PySem.Value.int 0 0, PySem.Value.int 0 0, PySem.Value.int 3 0, PySem.Value.ref 50, PySem.Value.bool Bool.true, PySem.Value.int 181 0, PySem.Value.ref 51, PySem.Value.none, PySem.Value.ref 52, PySem.Value.ref 53, PySem.Value.ref 54, PySem.Value.int 244 0, PySem.Value.int 12 0, PySem.Value.str (PySem.Str.ofString "/claim/cut.py") 245] }) ::
  (nat_lit 56, { cls := PySem.Value.type "function", data := PySem.Data.func { name := PySem.Str.ofString "__init__", qualname := PySem.Str.ofString "SettingError.__init__", params := (by apply (?gparamsL56 : (x : Arguments) → Is L56.params x → Arguments); (case a => (dsimp only [L56]; exact ⟨rfl⟩)); exact fun x _ => x), body := PySem.FuncBody.stmts (by apply (?gbodyL56 : (x : List Stmt) → Is L56.body x → List Stmt); (case a => (dsimp only [L56]; exact ⟨rfl⟩)); exact fun x _ => x), scope := (by apply (?gscopeL56 : (x : Scope) → Is L56.scope x → Scope); (case a => (dsimp only [L56]; exact ⟨rfl⟩)); exact fun x _ => x), globals := 3, closure := [], defaults := PySem.Value.ref 49, kwdefaults := PySem.Value.none, pyModule := PySem.Value.str (PySem.Str.ofString "switchloom.errors") 194, code := PySem.Value.ref 55 } }) ::
  (nat_lit 57, { cls := PySem.Value.type "tuple", data := PySem.Data.seq #[PySem.Value.str (PySem.Str.ofString "row") 247] }) ::
  (nat_lit 58, { cls := PySem.Value.type "dict", data := PySem.Data.dict #[{ hash := PySem.PyData.keyHash P (PySem.Str.ofString "__module__"), key := PySem.Value.str (PySem.Str.ofString "__module__") 232, val := PySem.Value.str (PySem.Str.ofString "switchloom.errors") 194 }, { hash := PySem.PyData.keyHash P (PySem.Str.ofString "__firstlineno__"), key := PySem.Value.str (PySem.Str.ofString "__firstlineno__") 236, val := PySem.Value.int 10 235 }, { hash := PySem.PyData.keyHash P (PySem.Str.ofString "__init__"), key := PySem.Value.str (PySem.Str.ofString "__init__") 246, val := PySem.Value.ref 56 }, { hash := PySem.PyData.keyHash P (PySem.Str.ofString "__static_attributes__"), key := PySem.Value.str (PySem.Str.ofString "__static_attributes__") 248, val := PySem.Value.ref 57 }, { hash := PySem.PyData.keyHash P (PySem.Str.ofString "__doc__"), key := PySem.Value.str (PySem.Str.ofString "__doc__") 249, val := PySem.Value.none }] 2 }) ::
  (nat_lit 59, { cls := PySem.Value.type "type", data := PySem.Data.cls { name := PySem.Str.ofString "SettingError", bases := [PySem.Value.ref 38], mro := [PySem.Value.ref 59, PySem.Value.ref 38, PySem.Value.type "Exception", PySem.Value.type "BaseException", PySem.Value.type "object"], ns := 58, qualname := PySem.Str.ofString "SettingError" }, slots := #[Option.some (PySem.Value.ref 42), Option.none, Option.some (PySem.Value.str (PySem.Str.ofString "SettingError") 225), Option.some (PySem.Value.str (PySem.Str.ofString "SettingError") 233), Option.some (PySem.Value.builtin "Exception.__new__"), Option.some (PySem.Value.bool Bool.true)] }) ::
  (nat_lit 69, { cls := PySem.Value.type "tuple", data := PySem.Data.seq #[] }) ::
  (nat_lit 71, { cls := PySem.Value.type "tuple", data := PySem.Data.seq #[PySem.Value.str (PySem.Str.ofString "self") 269, PySem.Value.str (PySem.Str.ofString "most") 270, PySem.Value.str (PySem.Str.ofString "most_octets") 271] }) ::
  (nat_lit 72, { cls := PySem.Value.type "tuple", data := PySem.Data.seq #[] }) ::
  (nat_lit 74, { cls := PySem.Value.type "code", data := PySem.Data.fields #[PySem.Value.str (PySem.Str.ofString "__init__") 266, PySem.Value.str (PySem.Str.ofString "QueueRow.__init__") 267, PySem.Value.str (PySem.Str.ofString "/claim/cut.py") 268, PySem.Value.int 18 0, PySem.Value.int 3 0, PySem.Value.int 0 0, PySem.Value.int 0 0, PySem.Value.int 3 0, PySem.Value.ref 69, PySem.Value.bool Bool.true, PySem.Value.int 181 0, PySem.Value.ref 70, PySem.Value.none, PySem.Value.ref 71, PySem.Value.ref 72, PySem.Value.ref 73, PySem.Value.int 272 0, PySem.Value.int 18 0, PySem.Value.str (PySem.Str.ofString "/claim/cut.py") 273] }) ::
  (nat_lit 75, { cls := PySem.Value.type "function", data := PySem.Data.func { name := PySem.Str.ofString "__init__", qualname := PySem.Str.ofString "QueueRow.__init__", params := (by apply (?gparamsL75 : (x : Arguments) → Is L75.params x → Arguments); (case a => (dsimp only [L75]; exact ⟨rfl⟩)); exact fun x _ => x), body := PySem.FuncBody.stmts (by apply (?gbodyL75 : (x : List Stmt) → Is L75.body x → List Stmt); (case a => (dsimp only [L75]; exact ⟨rfl⟩)); exact fun x _ => x), scope := (by apply (?gscopeL75 : (x : Scope) → Is L75.scope x → Scope); (case a => (dsimp only [L75]; exact ⟨rfl⟩)); exact fun x _ => x), globals := 3, closure := [], defaults := PySem.Value.none, kwdefaults := PySem.Value.none, pyModule := PySem.Value.str (PySem.Str.ofString "switchloom.queues") 252, code := PySem.Value.ref 74 } }) ::
  (nat_lit 76, { cls := PySem.Value.type "tuple", data := PySem.Data.seq #[] }) ::
  (nat_lit 78, { cls := PySem.Value.type "tuple", data := PySem.Data.seq #[PySem.Value.str (PySem.Str.ofString "self") 278, PySem.Value.str (PySem.Str.ofString "size") 279, PySem.Value.str (PySem.Str.ofString "thing") 280] }) ::
  (nat_lit 79, { cls := PySem.Value.type "tuple", data := PySem.Data.seq #[] }) ::
  (nat_lit 81, { cls := PySem.Value.type "code", data := PySem.Data.fields #[PySem.Value.str (PySem.Str.ofString "put") 275, PySem.Value.str (PySem.Str.ofString "QueueRow.put") 276, PySem.Value.str (PySem.Str.ofString "/claim/cut.py") 277, PySem.Value.int 27 0, PySem.Value.int 3 0, PySem.Value.int 0 0, PySem.Value.int 0 0, PySem.Value.int 3 0, PySem.Value.ref 76, PySem.Value.bool Bool.true, PySem.Value.int 181 0, PySem.Value.ref 77, PySem.Value.none, PySem.Value.ref 78, PySem.Value.ref 79, PySem.Value.ref 80, PySem.Value.int 281 0, PySem.Value.int 27 0, PySem.Value.str (PySem.Str.ofString "/claim/cut.py") 282] }) ::
  (nat_lit 82, { cls := PySem.Value.type "function", data := PySem.Data.func { name := PySem.Str.ofString "put", qualname := PySem.Str.ofString "QueueRow.put", params := (by apply (?gparamsL82 : (x : Arguments) → Is L82.params x → Arguments); (case a => (dsimp only [L82]; exact ⟨rfl⟩)); exact fun x _ => x), body := PySem.FuncBody.stmts (by apply (?gbodyL82 : (x : List Stmt) → Is L82.body x → List Stmt); (case a => (dsimp only [L82]; exact ⟨rfl⟩)); exact fun x _ => x), scope := (by apply (?gscopeL82 : (x : Scope) → Is L82.scope x → Scope); (case a => (dsimp only [L82]; exact ⟨rfl⟩)); exact fun x _ => x), globals := 3, closure := [], defaults := PySem.Value.none, kwdefaults := PySem.Value.none, pyModule := PySem.Value.str (PySem.Str.ofString "switchloom.queues") 252, code := PySem.Value.ref 81 } }) ::
  (nat_lit 83, { cls := PySem.Value.type "tuple", data := PySem.Data.seq #[] }) ::
  (nat_lit 85, { cls := PySem.Value.type "tuple", data := PySem.Data.seq #[PySem.Value.str (PySem.Str.ofString "self") 287] }) ::
  (nat_lit 86, { cls := PySem.Value.type "tuple", data := PySem.Data.seq #[] }) ::
  (nat_lit 88, { cls := PySem.Value.type "code", data := PySem.Data.fields #[PySem.Value.str (PySem.Str.ofString "is_empty") 284, PySem.Value.str (PySem.Str.ofString "QueueRow.is_empty") 285, PySem.Value.str (PySem.Str.ofString "/claim/cut.py") 286, PySem.Value.int 35 0, PySem.Value.int 1 0, PySem.Value.int 0 0, PySem.Value.int 0 0, PySem.Value.int 3 0, PySem.Value.ref 83, PySem.Value.bool Bool.true, PySem.Value.int 181 0, PySem.Value.ref 84, PySem.Value.none, PySem.Value.ref 85, PySem.Value.ref 86, PySem.Value.ref 87, PySem.Value.int 288 0, PySem.Value.int 35 0, PySem.Value.str (PySem.Str.ofString "/claim/cut.py") 289] }) ::
  (nat_lit 89, { cls := PySem.Value.type "function", data := PySem.Data.func { name := PySem.Str.ofString "is_empty", qualname := PySem.Str.ofString "QueueRow.is_empty", params := (by apply (?gparamsL89 : (x : Arguments) → Is L89.params x → Arguments); (case a => (dsimp only [L89]; exact ⟨rfl⟩)); exact fun x _ => x), body := PySem.FuncBody.stmts (by apply (?gbodyL89 : (x : List Stmt) → Is L89.body x → List Stmt); (case a => (dsimp only [L89]; exact ⟨rfl⟩)); exact fun x _ => x), scope := (by apply (?gscopeL89 : (x : Scope) → Is L89.scope x → Scope); (case a => (dsimp only [L89]; exact ⟨rfl⟩)); exact fun x _ => x), globals := 3, closure := [], defaults := PySem.Value.none, kwdefaults := PySem.Value.none, pyModule := PySem.Value.str (PySem.Str.ofString "switchloom.queues") 252, code := PySem.Value.ref 88 } }) ::
  (nat_lit 90, { cls := PySem.Value.type "tuple", data := PySem.Data.seq #[] }) ::
  (nat_lit 92, { cls := PySem.Value.type "tuple", data := PySem.Data.seq #[PySem.Value.str (PySem.Str.ofString "self") 294] }) ::
  (nat_lit 93, { cls := PySem.Value.type "tuple", data := PySem.Data.seq #[] }) ::
  (nat_lit 95, { cls := PySem.Value.type "code", data := PySem.Data.fields #[PySem.Value.str (PySem.Str.ofString "head_size") 291, PySem.Value.str (PySem.Str.ofString "QueueRow.head_size") 292, PySem.Value.str (PySem.Str.ofString "/claim/cut.py") 293, PySem.Value.int 38 0, PySem.Value.int 1 0, PySem.Value.int 0 0, PySem.Value.int 0 0, PySem.Value.int 3 0, PySem.Value.ref 90, PySem.Value.bool Bool.true, PySem.Value.int 181 0, PySem.Value.ref 91, PySem.Value.none, PySem.Value.ref 92, PySem.Value.ref 93, PySem.Value.ref 94, PySem.Value.int 295 0, PySem.Value.int 38 0, PySem.Value.str (PySem.Str.ofString "/claim/cut.py") 296] }) ::
  (nat_lit 96, { cls := PySem.Value.type "function", data := PySem.Data.func { name := PySem.Str.ofString "head_size", qualname := PySem.Str.ofString "QueueRow.head_size", params := (by apply (?gparamsL96 : (x : Arguments) → Is L96.params x → Arguments); (case a => (dsimp only [L96]; exact ⟨rfl⟩)); exact fun x _ => x), body := PySem.FuncBody.stmts (by apply (?gbodyL96 : (x : List Stmt) → Is L96.body x → List Stmt); (case a => (dsimp only [L96]; exact ⟨rfl⟩)); exact fun x _ => x), scope := (by apply (?gscopeL96 : (x : Scope) → Is L96.scope x → Scope); (case a => (dsimp only [L96]; exact ⟨rfl⟩)); exact fun x _ => x), globals := 3, closure := [], defaults := PySem.Value.none, kwdefaults := PySem.Value.none, pyModule := PySem.Value.str (PySem.Str.ofString "switchloom.queues") 252, code := PySem.Value.ref 95 } }) ::
  (nat_lit 97, { cls := PySem.Value.type "tuple", data := PySem.Data.seq #[] }) ::
  (nat_lit 99, { cls := PySem.Value.type "tuple", data := PySem.Data.seq #[PySem.Value.str (PySem.Str.ofString "self") 301, PySem.Value.str (PySem.Str.ofString "found") 302] }) ::
  (nat_lit 100, { cls := PySem.Value.type "tuple", data := PySem.Data.seq #[] }) ::
  (nat_lit 102, { cls := PySem.Value.type "code", data := PySem.Data.fields #[PySem.Value.str (PySem.Str.ofString "take") 298, PySem.Value.str (PySem.Str.ofString "QueueRow.take") 299, PySem.Value.str (PySem.Str.ofString "/claim/cut.py") 300, PySem.Value.int 41 0, PySem.Value.int 1 0, PySem.Value.int 0 0, PySem.Value.int 0 0, PySem.Value.int 3 0, PySem.Value.ref 97, PySem.Value.bool Bool.true, PySem.Value.int 181 0, PySem.Value.ref 98, PySem.Value.none, PySem.Value.ref 99, PySem.Value.ref 100, PySem.Value.ref 101, PySem.Value.int 303 0, PySem.Value.int 41 0, PySem.Value.str (PySem.Str.ofString "/claim/cut.py") 304] }) ::
  (nat_lit 103, { cls := PySem.Value.type "function", data := PySem.Data.func { name := PySem.Str.ofString "take", qualname := PySem.Str.ofString "QueueRow.take", params := (by apply (?gparamsL103 : (x : Arguments) → Is L103.params x → Arguments); (case a => (dsimp only [L103]; exact ⟨rfl⟩)); exact fun x _ => x), body := PySem.FuncBody.stmts (by apply (?gbodyL103 : (x : List Stmt) → Is L103.body x → List Stmt); (case a => (dsimp only [L103]; exact ⟨rfl⟩)); exact fun x _ => x), scope := (by apply (?gscopeL103 : (x : Scope) → Is L103.scope x → Scope); (case a => (dsimp only [L103]; exact ⟨rfl⟩)); exact fun x _ => x), globals := 3, closure := [], defaults := PySem.Value.none, kwdefaults := PySem.Value.none, pyModule := PySem.Value.str (PySem.Str.ofString "switchloom.queues") 252, code := PySem.Value.ref 102 } }) ::
  (nat_lit 104, { cls := PySem.Value.type "tuple", data := PySem.Data.seq #[PySem.Value.str (PySem.Str.ofString "dropped") 306, PySem.Value.str (PySem.Str.ofString "most") 307, PySem.Value.str (PySem.Str.ofString "most_octets") 308, PySem.Value.str (PySem.Str.ofString "octets") 309, PySem.Value.str (PySem.Str.ofString "things") 310] }) ::
  (nat_lit 105, { cls := PySem.Value.type "dict", data := PySem.Data.dict #[{ hash := PySem.PyData.keyHash P (PySem.Str.ofString "__module__"), key := PySem.Value.str (PySem.Str.ofString "__module__") 261, val := PySem.Value.str (PySem.Str.ofString "switchloom.queues") 252 }, { hash := PySem.PyData.keyHash P (PySem.Str.ofString "__firstlineno__"), key := PySem.Value.str (PySem.Str.ofString "__firstlineno__") 265, val := PySem.Value.int 16 264 }, { hash := PySem.PyData.keyHash P (PySem.Str.ofString "__init__"), key := PySem.Value.str (PySem.Str.ofString "__init__") 274, val := PySem.Value.ref 75 }, { hash := PySem.PyData.keyHash P (PySem.Str.ofString "put"), key := PySem.Value.str (PySem.Str.ofString "put") 283, val := PySem.Value.ref 82 }, { hash := PySem.PyData.keyHash P (PySem.Str.ofString "is_empty"), key := PySem.Value.str (PySem.Str.ofString "is_empty") 290, val := PySem.Value.ref 89 }, { hash := PySem.PyData.keyHash P (PySem.Str.ofString "head_size"), key := PySem.Value.str (PySem.Str.ofString "head_size") 297, val := PySem.Value.ref 96 }, { hash := PySem.PyData.keyHash P (PySem.Str.ofString "take"), key := PySem.Value.str (PySem.Str.ofString "take") 305, val := PySem.Value.ref 103 }, { hash := PySem.PyData.keyHash P (PySem.Str.ofString "__static_attributes__"), key := PySem.Value.str (PySem.Str.ofString "__static_attributes__") 311, val := PySem.Value.ref 104 }, { hash := PySem.PyData.keyHash P (PySem.Str.ofString "__dict__"), key := PySem.Value.str (PySem.Str.ofString "__dict__") 313, val := PySem.Value.ref 107 }, { hash := PySem.PyData.keyHash P (PySem.Str.ofString "__weakref__"), key := PySem.Value.str (PySem.Str.ofString "__weakref__") 315, val := PySem.Value.ref 108 }, { hash := PySem.PyData.keyHash P (PySem.Str.ofString "__doc__"), key := PySem.Value.str (PySem.Str.ofString "__doc__") 316, val := PySem.Value.none }] 4 }) ::
  (nat_lit 106, { cls := PySem.Value.type "type", data := PySem.Data.cls { name := PySem.Str.ofString "QueueRow", bases := [PySem.Value.type "object"], mro := [PySem.Value.ref 106, PySem.Value.type "object"], ns := 105, qualname := PySem.Str.ofString "QueueRow" }, slots := #[Option.none, Option.none, Option.some (PySem.Value.str (PySem.Str.ofString "QueueRow") 254), Option.some (PySem.Value.str (PySem.Str.ofString "QueueRow") 262), Option.some (PySem.Value.builtin "object.__new__"), Option.some (PySem.Value.bool Bool.true)] }) ::
  (nat_lit 107, { cls := PySem.Value.type "getset_descriptor", data := PySem.Data.fields #[PySem.Value.str (PySem.Str.ofString "__dict__") 312, PySem.Value.ref 106, PySem.Value.builtin "function.__dict__", PySem.Value.builtin "function.__dict__#set"] }) ::
  (nat_lit 108, { cls := PySem.Value.type "getset_descriptor", data := PySem.Data.fields #[PySem.Value.str (PySem.Str.ofString "__weakref__") 314, PySem.Value.ref 106, PySem.Value.builtin "ExceptionGroup.__weakref__", PySem.Value.none] }) ::
  (nat_lit 111, { cls := PySem.Value.type "tuple", data := PySem.Data.seq #[] }) ::
  (nat_lit 113, { cls := PySem.Value.type "tuple", data := PySem.Data.seq #[PySem.Value.str (PySem.Str.ofString "rows") 322, PySem.Value.str (PySem.Str.ofString "number") 323, PySem.Value.str (PySem.Str.ofString "allowed") 324] }) ::
  (nat_lit 114, { cls := PySem.Value.type "tuple", data := PySem.Data.seq #[] }) ::
  (nat_lit 116, { cls := PySem.Value.type "code", data := PySem.Data.fields #[PySem.Value.str (PySem.Str.ofString "may_go") 319, PySem.Value.str (PySem.Str.ofString "may_go") 320, PySem.Value.str (PySem.Str.ofString "/claim/cut.py") 321, PySem.Value.int 45 0, PySem.Value.int 3 0, PySem.Value.int 0 0, PySem.Value.int 0 0, PySem.Value.int 3 0, PySem.Value.ref 111, PySem.Value.bool Bool.true, PySem.Value.int 181 0, PySem.Value.ref 112, PySem.Value.none, PySem.Value.ref 113, PySem.Value.ref 114, PySem.Value.ref 115, PySem.Value.int 325 0, PySem.Value.int 45 0, PySem.Value.str (PySem.Str.ofString "/claim/cut.py") 326] }) ::
  (nat_lit 117, { cls := PySem.Value.type "function", data := PySem.Data.func { name := PySem.Str.ofString "may_go", qualname := PySem.Str.ofString "may_go", params := (by apply (?gparamsL117 : (x : Arguments) → Is L117.params x → Arguments); (case a => (dsimp only [L117]; exact ⟨rfl⟩)); exact fun x _ => x), body := PySem.FuncBody.stmts (by apply (?gbodyL117 : (x : List Stmt) → Is L117.body x → List Stmt); (case a => (dsimp only [L117]; exact ⟨rfl⟩)); exact fun x _ => x), scope := (by apply (?gscopeL117 : (x : Scope) → Is L117.scope x → Scope); (case a => (dsimp only [L117]; exact ⟨rfl⟩)); exact fun x _ => x), globals := 3, closure := [], defaults := PySem.Value.none, kwdefaults := PySem.Value.none, pyModule := PySem.Value.str (PySem.Str.ofString "switchloom.queues") 252, code := PySem.Value.ref 116 } }) ::
  (nat_lit 118, { cls := PySem.Value.type "tuple", data := PySem.Data.seq #[] }) ::
  (nat_lit 120, { cls := PySem.Value.type "tuple", data := PySem.Data.seq #[PySem.Value.str (PySem.Str.ofString "numbers") 335, PySem.Value.str (PySem.Str.ofString "found") 336, PySem.Value.str (PySem.Str.ofString "number") 337, PySem.Value.str (PySem.Str.ofString "one") 338, PySem.Value.str (PySem.Str.ofString "other") 339] }) ::
  (nat_lit 121, { cls := PySem.Value.type "tuple", data := PySem.Data.seq #[] }) ::
  (nat_lit 123, { cls := PySem.Value.type "code", data := PySem.Data.fields #[PySem.Value.str (PySem.Str.ofString "least_multiple") 332, PySem.Value.str (PySem.Str.ofString "least_multiple") 333, PySem.Value.str (PySem.Str.ofString "/claim/cut.py") 334, PySem.Value.int 49 0, PySem.Value.int 1 0, PySem.Value.int 0 0, PySem.Value.int 0 0, PySem.Value.int 3 0, PySem.Value.ref 118, PySem.Value.bool Bool.true, PySem.Value.int 181 0, PySem.Value.ref 119, PySem.Value.none, PySem.Value.ref 120, PySem.Value.ref 121, PySem.Value.ref 122, PySem.Value.int 340 0, PySem.Value.int 49 0, PySem.Value.str (PySem.Str.ofString "/claim/cut.py") 341] }) ::
  (nat_lit 124, { cls := PySem.Value.type "function", data := PySem.Data.func { name := PySem.Str.ofString "least_multiple", qualname := PySem.Str.ofString "least_multiple", params := (by apply (?gparamsL124 : (x : Arguments) → Is L124.params x → Arguments); (case a => (dsimp only [L124]; exact ⟨rfl⟩)); exact fun x _ => x), body := PySem.FuncBody.stmts (by apply (?gbodyL124 : (x : List Stmt) → Is L124.body x → List Stmt); (case a => (dsimp only [L124]; exact ⟨rfl⟩)); exact fun x _ => x), scope := (by apply (?gscopeL124 : (x : Scope) → Is L124.scope x → Scope); (case a => (dsimp only [L124]; exact ⟨rfl⟩)); exact fun x _ => x), globals := 3, closure := [], defaults := PySem.Value.none, kwdefaults := PySem.Value.none, pyModule := PySem.Value.str (PySem.Str.ofString "switchloom.fair_queues") 328, code := PySem.Value.ref 123 } }) ::
  (nat_lit 132, { cls := PySem.Value.type "tuple", data := PySem.Data.seq #[] }) ::
  (nat_lit 135, { cls := PySem.Value.type "code", data := PySem.Data.fields #[PySem.Value.str (PySem.Str.ofString "__init__") 355, PySem.Value.str (PySem.Str.ofString "WeightedFair.__init__") 356, PySem.Value.str (PySem.Str.ofString "/claim/cut.py") 357, PySem.Value.int 59 0, PySem.Value.int 3 0, PySem.Value.int 0 0, PySem.Value.int 0 0, PySem.Value.int 3 0, PySem.Value.ref 132, PySem.Value.bool Bool.true, PySem.Value.int 181 0, PySem.Value.ref 133, PySem.Value.none, PySem.Value.none, PySem.Value.none, PySem.Value.ref 134, PySem.Value.int 358 0, PySem.Value.int 59 0, PySem.Value.str (PySem.Str.ofString "/claim/cut.py") 359] }) ::
  (nat_lit 136, { cls := PySem.Value.type "function", data := PySem.Data.func { name := PySem.Str.ofString "__init__", qualname := PySem.Str.ofString "WeightedFair.__init__", params := (by apply (?gparamsL136 : (x : Arguments) → Is L136.params x → Arguments); (case a => (dsimp only [L136]; exact ⟨rfl⟩)); exact fun x _ => x), body := PySem.FuncBody.stmts (by apply (?gbodyL136 : (x : List Stmt) → Is L136.body x → List Stmt); (case a => (dsimp only [L136]; exact ⟨rfl⟩)); exact fun x _ => x), scope := (by apply (?gscopeL136 : (x : Scope) → Is L136.scope x → Scope); (case a => (dsimp only [L136]; exact ⟨rfl⟩)); exact fun x _ => x), globals := 3, closure := [], defaults := PySem.Value.none, kwdefaults := PySem.Value.none, pyModule := PySem.Value.str (PySem.Str.ofString "switchloom.fair_queues") 328, code := PySem.Value.ref 135 } }) ::
  (nat_lit 137, { cls := PySem.Value.type "tuple", data := PySem.Data.seq #[] }) ::
  (nat_lit 139, { cls := PySem.Value.type "tuple", data := PySem.Data.seq #[PySem.Value.str (PySem.Str.ofString "self") 364, PySem.Value.str (PySem.Str.ofString "number") 365, PySem.Value.str (PySem.Str.ofString "size") 366, PySem.Value.str (PySem.Str.ofString "thing") 367] }) ::
  (nat_lit 140, { cls := PySem.Value.type "tuple", data := PySem.Data.seq #[] }) ::
  (nat_lit 142, { cls := PySem.Value.type "code", data := PySem.Data.fields #[PySem.Value.str (PySem.Str.ofString "put") 361, PySem.Value.str (PySem.Str.ofString "WeightedFair.put") 362, PySem.Value.str (PySem.Str.ofString "/claim/cut.py") 363, PySem.Value.int 69 0, PySem.Value.int 4 0, PySem.Value.int 0 0, PySem.Value.int 0 0, PySem.Value.int 3 0, PySem.Value.ref 137, PySem.Value.bool Bool.true, PySem.Value.int 181 0, PySem.Value.ref 138, PySem.Value.none, PySem.Value.ref 139, PySem.Value.ref 140, PySem.Value.ref 141, PySem.Value.int 368 0, PySem.Value.int 69 0, PySem.Value.str (PySem.Str.ofString "/claim/cut.py") 369] }) ::
  (nat_lit 143, { cls := PySem.Value.type "function", data := PySem.Data.func { name := PySem.Str.ofString "put", qualname := PySem.Str.ofString "WeightedFair.put", params := (by apply (?gparamsL143 : (x : Arguments) → Is L143.params x → Arguments); (case a => (dsimp only [L143]; exact ⟨rfl⟩)); exact fun x _ => x), body := PySem.FuncBody.stmts (by apply (?gbodyL143 : (x : List Stmt) → Is L143.body x → List Stmt); (case a => (dsimp only [L143]; exact ⟨rfl⟩)); exact fun x _ => x), scope := (by apply (?gscopeL143 : (x : Scope) → Is L143.scope x → Scope); (case a => (dsimp only [L143]; exact ⟨rfl⟩)); exact fun x _ => x), globals := 3, closure := [], defaults := PySem.Value.none, kwdefaults := PySem.Value.none, pyModule := PySem.Value.str (PySem.Str.ofString "switchloom.fair_queues") 328, code := PySem.Value.ref 142 } }) ::
  (nat_lit 144, { cls := PySem.Value.type "tuple", data := PySem.Data.seq #[PySem.Value.none] }) ::
  (nat_lit 145, { cls := PySem.Value.type "tuple", data := PySem.Data.seq #[] }) ::
  (nat_lit 148, { cls := PySem.Value.type "code", data := PySem.Data.fields #[PySem.Value.str (PySem.Str.ofString "look") 371, PySem.Value.str (PySem.Str.ofString "WeightedFair.look") 372, PySem.Value.str (PySem.Str.ofString "/claim/cut.py") 373, PySem.Value.int 79 0, PySem.Value.int 2 0, PySem.Value.int 0 0, PySem.Value.int 0 0, PySem.Value.int 3 0, PySem.Value.ref 145, PySem.Value.bool Bool.true, PySem.Value.int 181 0, PySem.Value.ref 146, PySem.Value.none, PySem.Value.none, PySem.Value.none, PySem.Value.ref 147, PySem.Value.int 374 0, PySem.Value.int 79 0, PySem.Value.str (PySem.Str.ofString "/claim/cut.py") 375] }) ::
  (nat_lit 149, { cls := PySem.Value.type "function", data := PySem.Data.func { name := PySem.Str.ofString "look", qualname := PySem.Str.ofString "WeightedFair.look", params := (by apply (?gparamsL149 : (x : Arguments) → Is L149.params x → Arguments); (case a => (dsimp only [L149]; exact ⟨rfl⟩)); exact fun x _ => x), body := PySem.FuncBody.stmts (by apply (?gbodyL149 : (x : List Stmt) → Is L149.body x → List Stmt); (case a => (dsimp only [L149]; exact ⟨rfl⟩)); exact fun x _ => x), scope := (by apply (?gscopeL149 : (x : Scope) → Is L149.scope x → Scope); (case a => (dsimp only [L149]; exact ⟨rfl⟩)); exact fun x _ => x), globals := 3, closure := [], defaults := PySem.Value.ref 144, kwdefaults := PySem.Value.none, pyModule := PySem.Value.str (PySem.Str.ofString "switchloom.fair_queues") 328, code := PySem.Value.ref 148 } }) ::
  (nat_lit 150, { cls := PySem.Value.type "tuple", data := PySem.Data.seq #[PySem.Value.none] }) ::
  (nat_lit 151, { cls := PySem.Value.type "tuple", data := PySem.Data.seq #[] }) ::
  (nat_lit 153, { cls := PySem.Value.type "tuple", data := PySem.Data.seq #[PySem.Value.str (PySem.Str.ofString "self") 380, PySem.Value.str (PySem.Str.ofString "allowed") 381, PySem.Value.str (PySem.Str.ofString "found") 382] }) ::
  (nat_lit 154, { cls := PySem.Value.type "tuple", data := PySem.Data.seq #[] }) ::
  (nat_lit 156, { cls := PySem.Value.type "code", data := PySem.Data.fields #[PySem.Value.str (PySem.Str.ofString "take") 377, PySem.Value.str (PySem.Str.ofString "WeightedFair.take") 378, PySem.Value.str (PySem.Str.ofString "/claim/cut.py") 379, PySem.Value.int 86 0, PySem.Value.int 2 0, PySem.Value.int 0 0, PySem.Value.int 0 0, PySem.Value.int 3 0, PySem.Value.ref 151, PySem.Value.bool Bool.true, PySem.Value.int 181 0, PySem.Value.ref 152, PySem.Value.none, PySem.Value.ref 153, PySem.Value.ref 154, PySem.Value.ref 155, PySem.Value.int 383 0, PySem.Value.int 86 0, PySem.Value.str (PySem.Str.ofString "/claim/cut.py") 384] }) ::
  (nat_lit 157, { cls := PySem.Value.type "function", data := PySem.Data.func { name := PySem.Str.ofString "take", qualname := PySem.Str.ofString "WeightedFair.take", params := (by apply (?gparamsL157 : (x : Arguments) → Is L157.params x → Arguments); (case a => (dsimp only [L157]; exact ⟨rfl⟩)); exact fun x _ => x), body := PySem.FuncBody.stmts (by apply (?gbodyL157 : (x : List Stmt) → Is L157.body x → List Stmt); (case a => (dsimp only [L157]; exact ⟨rfl⟩)); exact fun x _ => x), scope := (by apply (?gscopeL157 : (x : Scope) → Is L157.scope x → Scope); (case a => (dsimp only [L157]; exact ⟨rfl⟩)); exact fun x _ => x), globals := 3, closure := [], defaults := PySem.Value.ref 150, kwdefaults := PySem.Value.none, pyModule := PySem.Value.str (PySem.Str.ofString "switchloom.fair_queues") 328, code := PySem.Value.ref 156 } }) ::
  (nat_lit 158, { cls := PySem.Value.type "tuple", data := PySem.Data.seq #[] }) ::
  (nat_lit 161, { cls := PySem.Value.type "code", data := PySem.Data.fields #[PySem.Value.str (PySem.Str.ofString "waiting") 386, PySem.Value.str (PySem.Str.ofString "WeightedFair.waiting") 387, PySem.Value.str (PySem.Str.ofString "/claim/cut.py") 388, PySem.Value.int 93 0, PySem.Value.int 1 0, PySem.Value.int 0 0, PySem.Value.int 0 0, PySem.Value.int 3 0, PySem.Value.ref 158, PySem.Value.bool Bool.true, PySem.Value.int 181 0, PySem.Value.ref 159, PySem.Value.none, PySem.Value.none, PySem.Value.none, PySem.Value.ref 160, PySem.Value.int 389 0, PySem.Value.int 93 0, PySem.Value.str (PySem.Str.ofString "/claim/cut.py") 390] }) ::
  (nat_lit 162, { cls := PySem.Value.type "function", data := PySem.Data.func { name := PySem.Str.ofString "waiting", qualname := PySem.Str.ofString "WeightedFair.waiting", params := (by apply (?gparamsL162 : (x : Arguments) → Is L162.params x → Arguments); (case a => (dsimp only [L162]; exact ⟨rfl⟩)); exact fun x _ => x), body := PySem.FuncBody.stmts (by apply (?gbodyL162 : (x : List Stmt) → Is L162.body x → List Stmt); (case a => (dsimp only [L162]; exact ⟨rfl⟩)); exact fun x _ => x), scope := (by apply (?gscopeL162 : (x : Scope) → Is L162.scope x → Scope); (case a => (dsimp only [L162]; exact ⟨rfl⟩)); exact fun x _ => x), globals := 3, closure := [], defaults := PySem.Value.none, kwdefaults := PySem.Value.none, pyModule := PySem.Value.str (PySem.Str.ofString "switchloom.fair_queues") 328, code := PySem.Value.ref 161 } }) ::
  (nat_lit 163, { cls := PySem.Value.type "tuple", data := PySem.Data.seq #[PySem.Value.str (PySem.Str.ofString "finishes") 392, PySem.Value.str (PySem.Str.ofString "last") 393, PySem.Value.str (PySem.Str.ofString "rows") 394, PySem.Value.str (PySem.Str.ofString "steps") 395, PySem.Value.str (PySem.Str.ofString "time") 396, PySem.Value.str (PySem.Str.ofString "unit") 397] }) ::
  (nat_lit 164, { cls := PySem.Value.type "dict", data := PySem.Data.dict #[{ hash := PySem.PyData.keyHash P (PySem.Str.ofString "__module__"), key := PySem.Value.str (PySem.Str.ofString "__module__") 350, val := PySem.Value.str (PySem.Str.ofString "switchloom.fair_queues") 328 }, { hash := PySem.PyData.keyHash P (PySem.Str.ofString "__firstlineno__"), key := PySem.Value.str (PySem.Str.ofString "__firstlineno__") 354, val := PySem.Value.int 57 353 }, { hash := PySem.PyData.keyHash P (PySem.Str.ofString "__init__"), key := PySem.Value.str (PySem.Str.ofString "__init__") 360, val := PySem.Value.ref 136 }, { hash := PySem.PyData.keyHash P (PySem.Str.ofString "put"), key := PySem.Value.str (PySem.Str.ofString "put") 370, val := PySem.Value.ref 143 }, { hash := PySem.PyData.keyHash P (PySem.Str.ofString "look"), key := PySem.Value.str (PySem.Str.ofString "look") 376, val := PySem.Value.ref 149 }, { hash := PySem.PyData.keyHash P (PySem.Str.ofString "take"), key := PySem.Value.str (PySem.Str.ofString "take") 385, val := PySem.Value.ref 157 }, { hash := PySem.PyData.keyHash P (PySem.Str.ofString "waiting"), key := PySem.Value.str (PySem.Str.ofString "waiting") 391, val := PySem.Value.ref 162 }, { hash := PySem.PyData.keyHash P (PySem.Str.ofString "__static_attributes__"), key := PySem.Value.str (PySem.Str.ofString "__static_attributes__") 398, val := PySem.Value.ref 163 }, { hash := PySem.PyData.keyHash P (PySem.Str.ofString "__dict__"), key := PySem.Value.str (PySem.Str.ofString "__dict__") 400, val := PySem.Value.ref 166 }, { hash := PySem.PyData.keyHash P (PySem.Str.ofString "__weakref__"), key := PySem.Value.str (PySem.Str.ofString "__weakref__") 402, val := PySem.Value.ref 167 }, { hash := PySem.PyData.keyHash P (PySem.Str.ofString "__doc__"), key := PySem.Value.str (PySem.Str.ofString "__doc__") 403, val := PySem.Value.none }] 4 }) ::
  (nat_lit 165, { cls := PySem.Value.type "type", data := PySem.Data.cls { name := PySem.Str.ofString "WeightedFair", bases := [PySem.Value.type "object"], mro := [PySem.Value.ref 165, PySem.Value.type "object"], ns := 164, qualname := PySem.Str.ofString "WeightedFair" }, slots := #[Option.none, Option.none, Option.some (PySem.Value.str (PySem.Str.ofString "WeightedFair") 343), Option.some (PySem.Value.str (PySem.Str.ofString "WeightedFair") 351), Option.some (PySem.Value.builtin "object.__new__"), Option.some (PySem.Value.bool Bool.true)] }) ::
  (nat_lit 166, { cls := PySem.Value.type "getset_descriptor", data := PySem.Data.fields #[PySem.Value.str (PySem.Str.ofString "__dict__") 399, PySem.Value.ref 165, PySem.Value.builtin "function.__dict__", PySem.Value.builtin "function.__dict__#set"] }) ::
  (nat_lit 167, { cls := PySem.Value.type "getset_descriptor", data := PySem.Data.fields #[PySem.Value.str (PySem.Str.ofString "__weakref__") 401, PySem.Value.ref 165, PySem.Value.builtin "ExceptionGroup.__weakref__", PySem.Value.none] }) ::
  (nat_lit 177, { cls := PySem.Value.type "tuple", data := PySem.Data.seq #[] }) ::
  (nat_lit 179, { cls := PySem.Value.type "tuple", data := PySem.Data.seq #[PySem.Value.str (PySem.Str.ofString "self") 421, PySem.Value.str (PySem.Str.ofString "shift") 422] }) ::
  (nat_lit 180, { cls := PySem.Value.type "tuple", data := PySem.Data.seq #[] }) ::
  (nat_lit 182, { cls := PySem.Value.type "code", data := PySem.Data.fields #[PySem.Value.str (PySem.Str.ofString "__init__") 418, PySem.Value.str (PySem.Str.ofString "AverageLevel.__init__") 419, PySem.Value.str (PySem.Str.ofString "/claim/cut.py") 420, PySem.Value.int 97 0, PySem.Value.int 2 0, PySem.Value.int 0 0, PySem.Value.int 0 0, PySem.Value.int 3 0, PySem.Value.ref 177, PySem.Value.bool Bool.true, PySem.Value.int 181 0, PySem.Value.ref 178, PySem.Value.none, PySem.Value.ref 179, PySem.Value.ref 180, PySem.Value.ref 181, PySem.Value.int 423 0, PySem.Value.int 97 0, PySem.Value.str (PySem.Str.ofString "/claim/cut.py") 424] }) ::
  (nat_lit 183, { cls := PySem.Value.type "function", data := PySem.Data.func { name := PySem.Str.ofString "__init__", qualname := PySem.Str.ofString "AverageLevel.__init__", params := (by apply (?gparamsL183 : (x : Arguments) → Is L183.params x → Arguments); (case a => (dsimp only [L183]; exact ⟨rfl⟩)); exact fun x _ => x), body := PySem.FuncBody.stmts (by apply (?gbodyL183 : (x : List Stmt) → Is L183.body x → List Stmt); (case a => (dsimp only [L183]; exact ⟨rfl⟩)); exact fun x _ => x), scope := (by apply (?gscopeL183 : (x : Scope) → Is L183.scope x → Scope); (case a => (dsimp only [L183]; exact ⟨rfl⟩)); exact fun x _ => x), globals := 3, closure := [], defaults := PySem.Value.none, kwdefaults := PySem.Value.none, pyModule := PySem.Value.str (PySem.Str.ofString "switchloom.fair_queues") 328, code := PySem.Value.ref 182 } }) ::
  (nat_lit 184, { cls := PySem.Value.type "tuple", data := PySem.Data.seq #[] }) ::
  (nat_lit 186, { cls := PySem.Value.type "tuple", data := PySem.Data.seq #[PySem.Value.str (PySem.Str.ofString "self") 429, PySem.Value.str (PySem.Str.ofString "level") 430] }) ::
  (nat_lit 187, { cls := PySem.Value.type "tuple", data := PySem.Data.seq #[] }) ::
  (nat_lit 189, { cls := PySem.Value.type "code", data := PySem.Data.fields #[PySem.Value.str (PySem.Str.ofString "told") 426, PySem.Value.str (PySem.Str.ofString "AverageLevel.told") 427, PySem.Value.str (PySem.Str.ofString "/claim/cut.py") 428, PySem.Value.int 101 0, PySem.Value.int 2 0, PySem.Value.int 0 0, PySem.Value.int 0 0, PySem.Value.int 3 0, PySem.Value.ref 184, PySem.Value.bool Bool.true, PySem.Value.int 181 0, PySem.Value.ref 185, PySem.Value.none, PySem.Value.ref 186, PySem.Value.ref 187, PySem.Value.ref 188, PySem.Value.int 431 0, PySem.Value.int 101 0, PySem.Value.str (PySem.Str.ofString "/claim/cut.py") 432] }) ::
  (nat_lit 190, { cls := PySem.Value.type "function", data := PySem.Data.func { name := PySem.Str.ofString "told", qualname := PySem.Str.ofString "AverageLevel.told", params := (by apply (?gparamsL190 : (x : Arguments) → Is L190.params x → Arguments); (case a => (dsimp only [L190]; exact ⟨rfl⟩)); exact fun x _ => x), body := PySem.FuncBody.stmts (by apply (?gbodyL190 : (x : List Stmt) → Is L190.body x → List Stmt); (case a => (dsimp only [L190]; exact ⟨rfl⟩)); exact fun x _ => x), scope := (by apply (?gscopeL190 : (x : Scope) → Is L190.scope x → Scope); (case a => (dsimp only [L190]; exact ⟨rfl⟩)); exact fun x _ => x), globals := 3, closure := [], defaults := PySem.Value.none, kwdefaults := PySem.Value.none, pyModule := PySem.Value.str (PySem.Str.ofString "switchloom.fair_queues") 328, code := PySem.Value.ref 189 } }) ::
  (nat_lit 191, { cls := PySem.Value.type "tuple", data := PySem.Data.seq #[PySem.Value.str (PySem.Str.ofString "parts") 434, PySem.Value.str (PySem.Str.ofString "shift") 435] }) ::
  (nat_lit 192, { cls := PySem.Value.type "dict", data := PySem.Data.dict #[{ hash := PySem.PyData.keyHash P (PySem.Str.ofString "__module__"), key := PySem.Value.str (PySem.Str.ofString "__module__") 413, val := PySem.Value.str (PySem.Str.ofString "switchloom.fair_queues") 328 }, { hash := PySem.PyData.keyHash P (PySem.Str.ofString "__firstlineno__"), key := PySem.Value.str (PySem.Str.ofString "__firstlineno__") 417, val := PySem.Value.int 95 416 }, { hash := PySem.PyData.keyHash P (PySem.Str.ofString "__init__"), key := PySem.Value.str (PySem.Str.ofString "__init__") 425, val := PySem.Value.ref 183 }, { hash := PySem.PyData.keyHash P (PySem.Str.ofString "told"), key := PySem.Value.str (PySem.Str.ofString "told") 433, val := PySem.Value.ref 190 }, { hash := PySem.PyData.keyHash P (PySem.Str.ofString "__static_attributes__"), key := PySem.Value.str (PySem.Str.ofString "__static_attributes__") 436, val := PySem.Value.ref 191 }, { hash := PySem.PyData.keyHash P (PySem.Str.ofString "__dict__"), key := PySem.Value.str (PySem.Str.ofString "__dict__") 438, val := PySem.Value.ref 194 }, { hash := PySem.PyData.keyHash P (PySem.Str.ofString "__weakref__"), key := PySem.Value.str (PySem.Str.ofString "__weakref__") 440, val := PySem.Value.ref 195 }, { hash := PySem.PyData.keyHash P (PySem.Str.ofString "__doc__"), key := PySem.Value.str (PySem.Str.ofString "__doc__") 441, val := PySem.Value.none }] 4 }) ::
  (nat_lit 193, { cls := PySem.Value.type "type", data := PySem.Data.cls { name := PySem.Str.ofString "AverageLevel", bases := [PySem.Value.type "object"], mro := [PySem.Value.ref 193, PySem.Value.type "object"], ns := 192, qualname := PySem.Str.ofString "AverageLevel" }, slots := #[Option.none, Option.none, Option.some (PySem.Value.str (PySem.Str.ofString "AverageLevel") 406), Option.some (PySem.Value.str (PySem.Str.ofString "AverageLevel") 414), Option.some (PySem.Value.builtin "object.__new__"), Option.some (PySem.Value.bool Bool.true)] }) ::
  (nat_lit 194, { cls := PySem.Value.type "getset_descriptor", data := PySem.Data.fields #[PySem.Value.str (PySem.Str.ofString "__dict__") 437, PySem.Value.ref 193, PySem.Value.builtin "function.__dict__", PySem.Value.builtin "function.__dict__#set"] }) ::
  (nat_lit 195, { cls := PySem.Value.type "getset_descriptor", data := PySem.Data.fields #[PySem.Value.str (PySem.Str.ofString "__weakref__") 439, PySem.Value.ref 193, PySem.Value.builtin "ExceptionGroup.__weakref__", PySem.Value.none] }) ::
  (nat_lit 205, { cls := PySem.Value.type "tuple", data := PySem.Data.seq #[] }) ::
  (nat_lit 207, { cls := PySem.Value.type "tuple", data := PySem.Data.seq #[PySem.Value.str (PySem.Str.ofString "self") 459, PySem.Value.str (PySem.Str.ofString "low") 460, PySem.Value.str (PySem.Str.ofString "high") 461, PySem.Value.str (PySem.Str.ofString "most") 462] }) ::
  (nat_lit 208, { cls := PySem.Value.type "tuple", data := PySem.Data.seq #[] }) ::
  (nat_lit 210, { cls := PySem.Value.type "code", data := PySem.Data.fields #[PySem.Value.str (PySem.Str.ofString "__init__") 456, PySem.Value.str (PySem.Str.ofString "DropCurve.__init__") 457, PySem.Value.str (PySem.Str.ofString "/claim/cut.py") 458, PySem.Value.int 106 0, PySem.Value.int 4 0, PySem.Value.int 0 0, PySem.Value.int 0 0, PySem.Value.int 3 0, PySem.Value.ref 205, PySem.Value.bool Bool.true, PySem.Value.int 181 0, PySem.Value.ref 206, PySem.Value.none, PySem.Value.ref 207, PySem.Value.ref 208, PySem.Value.ref 209, PySem.Value.int 463 0, PySem.Value.int 106 0, PySem.Value.str (PySem.Str.ofString "/claim/cut.py") 464] }) ::
  (nat_lit 211, { cls := PySem.Value.type "function", data := PySem.Data.func { name := PySem.Str.ofString "__init__", qualname := PySem.Str.ofString "DropCurve.__init__", params := (by apply (?gparamsL211 : (x : Arguments) → Is L211.params x → Arguments); (case a => (dsimp only [L211]; exact ⟨rfl⟩)); exact fun x _ => x), body := PySem.FuncBody.stmts (by apply (?gbodyL211 : (x : List Stmt) → Is L211.body x → List Stmt); (case a => (dsimp only [L211]; exact ⟨rfl⟩)); exact fun x _ => x), scope := (by apply (?gscopeL211 : (x : Scope) → Is L211.scope x → Scope); (case a => (dsimp only [L211]; exact ⟨rfl⟩)); exact fun x _ => x), globals := 3, closure := [], defaults := PySem.Value.none, kwdefaults := PySem.Value.none, pyModule := PySem.Value.str (PySem.Str.ofString "switchloom.fair_queues") 328, code := PySem.Value.ref 210 } }) ::
  (nat_lit 212, { cls := PySem.Value.type "tuple", data := PySem.Data.seq #[] }) ::
  (nat_lit 214, { cls := PySem.Value.type "tuple", data := PySem.Data.seq #[PySem.Value.str (PySem.Str.ofString "self") 469, PySem.Value.str (PySem.Str.ofString "level") 470] }) ::
  (nat_lit 215, { cls := PySem.Value.type "tuple", data := PySem.Data.seq #[] }) ::
  (nat_lit 217, { cls := PySem.Value.type "code", data := PySem.Data.fields #[PySem.Value.str (PySem.Str.ofString "share") 466, PySem.Value.str (PySem.Str.ofString "DropCurve.share") 467, PySem.Value.str (PySem.Str.ofString "/claim/cut.py") 468, PySem.Value.int 113 0, PySem.Value.int 2 0, PySem.Value.int 0 0, PySem.Value.int 0 0, PySem.Value.int 3 0, PySem.Value.ref 212, PySem.Value.bool Bool.true, PySem.Value.int 181 0, PySem.Value.ref 213, PySem.Value.none, PySem.Value.ref 214, PySem.Value.ref 215, PySem.Value.ref 216, PySem.Value.int 471 0, PySem.Value.int 113 0, PySem.Value.str (PySem.Str.ofString "/claim/cut.py") 472] }) ::
  (nat_lit 218, { cls := PySem.Value.type "function", data := PySem.Data.func { name := PySem.Str.ofString "share", qualname := PySem.Str.ofString "DropCurve.share", params := (by apply (?gparamsL218 : (x : Arguments) → Is L218.params x → Arguments); (case a => (dsimp only [L218]; exact ⟨rfl⟩)); exact fun x _ => x), body := PySem.FuncBody.stmts (by apply (?gbodyL218 : (x : List Stmt) → Is L218.body x → List Stmt); (case a => (dsimp only [L218]; exact ⟨rfl⟩)); exact fun x _ => x), scope := (by apply (?gscopeL218 : (x : Scope) → Is L218.scope x → Scope); (case a => (dsimp only [L218]; exact ⟨rfl⟩)); exact fun x _ => x), globals := 3, closure := [], defaults := PySem.Value.none, kwdefaults := PySem.Value.none, pyModule := PySem.Value.str (PySem.Str.ofString "switchloom.fair_queues") 328, code := PySem.Value.ref 217 } }) ::
  (nat_lit 219, { cls := PySem.Value.type "tuple", data := PySem.Data.seq #[] }) ::
  (nat_lit 221, { cls := PySem.Value.type "tuple", data := PySem.Data.seq #[PySem.Value.str (PySem.Str.ofString "self") 477, PySem.Value.str (PySem.Str.ofString "level") 478, PySem.Value.str (PySem.Str.ofString "told") 479] }) ::
  (nat_lit 222, { cls := PySem.Value.type "tuple", data := PySem.Data.seq #[] }) ::
  (nat_lit 224, { cls := PySem.Value.type "code", data := PySem.Data.fields #[PySem.Value.str (PySem.Str.ofString "drops") 474, PySem.Value.str (PySem.Str.ofString "DropCurve.drops") 475, PySem.Value.str (PySem.Str.ofString "/claim/cut.py") 476, PySem.Value.int 120 0, PySem.Value.int 3 0, PySem.Value.int 0 0, PySem.Value.int 0 0, PySem.Value.int 3 0, PySem.Value.ref 219, PySem.Value.bool Bool.true, PySem.Value.int 181 0, PySem.Value.ref 220, PySem.Value.none, PySem.Value.ref 221, PySem.Value.ref 222, PySem.Value.ref 223, PySem.Value.int 480 0, PySem.Value.int 120 0, PySem.Value.str (PySem.Str.ofString "/claim/cut.py") 481] }) ::
  (nat_lit 225, { cls := PySem.Value.type "function", data := PySem.Data.func { name := PySem.Str.ofString "drops", qualname := PySem.Str.ofString "DropCurve.drops", params := (by apply (?gparamsL225 : (x : Arguments) → Is L225.params x → Arguments); (case a => (dsimp only [L225]; exact ⟨rfl⟩)); exact fun x _ => x), body := PySem.FuncBody.stmts (by apply (?gbodyL225 : (x : List Stmt) → Is L225.body x → List Stmt); (case a => (dsimp only [L225]; exact ⟨rfl⟩)); exact fun x _ => x), scope := (by apply (?gscopeL225 : (x : Scope) → Is L225.scope x → Scope); (case a => (dsimp only [L225]; exact ⟨rfl⟩)); exact fun x _ => x), globals := 3, closure := [], defaults := PySem.Value.none, kwdefaults := PySem.Value.none, pyModule := PySem.Value.str (PySem.Str.ofString "switchloom.fair_queues") 328, code := PySem.Value.ref 224 } }) ::
  (nat_lit 226, { cls := PySem.Value.type "tuple", data := PySem.Data.seq #[PySem.Value.str (PySem.Str.ofString "high") 483, PySem.Value.str (PySem.Str.ofString "low") 484, PySem.Value.str (PySem.Str.ofString "most") 485] }) ::
  (nat_lit 227, { cls := PySem.Value.type "dict", data := PySem.Data.dict #[{ hash := PySem.PyData.keyHash P (PySem.Str.ofString "__module__"), key := PySem.Value.str (PySem.Str.ofString "__module__") 451, val := PySem.Value.str (PySem.Str.ofString "switchloom.fair_queues") 328 }, { hash := PySem.PyData.keyHash P (PySem.Str.ofString "__firstlineno__"), key := PySem.Value.str (PySem.Str.ofString "__firstlineno__") 455, val := PySem.Value.int 104 454 }, { hash := PySem.PyData.keyHash P (PySem.Str.ofString "__init__"), key := PySem.Value.str (PySem.Str.ofString "__init__") 465, val := PySem.Value.ref 211 }, { hash := PySem.PyData.keyHash P (PySem.Str.ofString "share"), key := PySem.Value.str (PySem.Str.ofString "share") 473, val := PySem.Value.ref 218 }, { hash := PySem.PyData.keyHash P (PySem.Str.ofString "drops"), key := PySem.Value.str (PySem.Str.ofString "drops") 482, val := PySem.Value.ref 225 }, { hash := PySem.PyData.keyHash P (PySem.Str.ofString "__static_attributes__"), key := PySem.Value.str (PySem.Str.ofString "__static_attributes__") 486, val := PySem.Value.ref 226 }, { hash := PySem.PyData.keyHash P (PySem.Str.ofString "__dict__"), key := PySem.Value.str (PySem.Str.ofString "__dict__") 488, val := PySem.Value.ref 229 }, { hash := PySem.PyData.keyHash P (PySem.Str.ofString "__weakref__"), key := PySem.Value.str (PySem.Str.ofString "__weakref__") 490, val := PySem.Value.ref 230 }, { hash := PySem.PyData.keyHash P (PySem.Str.ofString "__doc__"), key := PySem.Value.str (PySem.Str.ofString "__doc__") 491, val := PySem.Value.none }] 4 }) ::
  (nat_lit 228, { cls := PySem.Value.type "type", data := PySem.Data.cls { name := PySem.Str.ofString "DropCurve", bases := [PySem.Value.type "object"], mro := [PySem.Value.ref 228, PySem.Value.type "object"], ns := 227, qualname := PySem.Str.ofString "DropCurve" }, slots := #[Option.none, Option.none, Option.some (PySem.Value.str (PySem.Str.ofString "DropCurve") 444), Option.some (PySem.Value.str (PySem.Str.ofString "DropCurve") 452), Option.some (PySem.Value.builtin "object.__new__"), Option.some (PySem.Value.bool Bool.true)] }) ::
  (nat_lit 229, { cls := PySem.Value.type "getset_descriptor", data := PySem.Data.fields #[PySem.Value.str (PySem.Str.ofString "__dict__") 487, PySem.Value.ref 228, PySem.Value.builtin "function.__dict__", PySem.Value.builtin "function.__dict__#set"] }) ::
  (nat_lit 230, { cls := PySem.Value.type "getset_descriptor", data := PySem.Data.fields #[PySem.Value.str (PySem.Str.ofString "__weakref__") 489, PySem.Value.ref 228, PySem.Value.builtin "ExceptionGroup.__weakref__", PySem.Value.none] }) ::
  (nat_lit 233, { cls := PySem.Value.type "tuple", data := PySem.Data.seq #[] }) ::
  (nat_lit 235, { cls := PySem.Value.type "tuple", data := PySem.Data.seq #[PySem.Value.str (PySem.Str.ofString "script") 499, PySem.Value.str (PySem.Str.ofString "size") 500] }) ::
  (nat_lit 236, { cls := PySem.Value.type "tuple", data := PySem.Data.seq #[] }) ::
  (nat_lit 238, { cls := PySem.Value.type "code", data := PySem.Data.fields #[PySem.Value.str (PySem.Str.ofString "_law_source") 496, PySem.Value.str (PySem.Str.ofString "_law_source") 497, PySem.Value.str (PySem.Str.ofString "/claim/cut.py") 498, PySem.Value.int 123 0, PySem.Value.int 1 0, PySem.Value.int 0 0, PySem.Value.int 0 0, PySem.Value.int 3 0, PySem.Value.ref 233, PySem.Value.bool Bool.true, PySem.Value.int 181 0, PySem.Value.ref 234, PySem.Value.none, PySem.Value.ref 235, PySem.Value.ref 236, PySem.Value.ref 237, PySem.Value.int 501 0, PySem.Value.int 123 0, PySem.Value.str (PySem.Str.ofString "/claim/cut.py") 502] }) ::
  (nat_lit 239, { cls := PySem.Value.type "function", data := PySem.Data.func { name := PySem.Str.ofString "_law_source", qualname := PySem.Str.ofString "_law_source", params := (by apply (?gparamsL239 : (x : Arguments) → Is L239.params x → Arguments); (case a => (dsimp only [L239]; exact ⟨rfl⟩)); exact fun x _ => x), body := PySem.FuncBody.stmts (by apply (?gbodyL239 : (x : List Stmt) → Is L239.body x → List Stmt); (case a => (dsimp only [L239]; exact ⟨rfl⟩)); exact fun x _ => x), scope := (by apply (?gscopeL239 : (x : Scope) → Is L239.scope x → Scope); (case a => (dsimp only [L239]; exact ⟨rfl⟩)); exact fun x _ => x), globals := 3, closure := [], defaults := PySem.Value.none, kwdefaults := PySem.Value.none, pyModule := PySem.Value.str (PySem.Str.ofString "law_pc0369_01") 494, code := PySem.Value.ref 238 } }) ::
  (nat_lit 240, { cls := PySem.Value.type "tuple", data := PySem.Data.seq #[] }) ::
  (nat_lit 242, { cls := PySem.Value.type "tuple", data := PySem.Data.seq #[PySem.Value.str (PySem.Str.ofString "source") 507, PySem.Value.str (PySem.Str.ofString "top") 508, PySem.Value.str (PySem.Str.ofString "digit") 509] }) ::
  (nat_lit 243, { cls := PySem.Value.type "tuple", data := PySem.Data.seq #[] }) ::
  (nat_lit 245, { cls := PySem.Value.type "code", data := PySem.Data.fields #[PySem.Value.str (PySem.Str.ofString "_law_next") 504, PySem.Value.str (PySem.Str.ofString "_law_next") 505, PySem.Value.str (PySem.Str.ofString "/claim/cut.py") 506, PySem.Value.int 126 0, PySem.Value.int 2 0, PySem.Value.int 0 0, PySem.Value.int 0 0, PySem.Value.int 3 0, PySem.Value.ref 240, PySem.Value.bool Bool.true, PySem.Value.int 181 0, PySem.Value.ref 241, PySem.Value.none, PySem.Value.ref 242, PySem.Value.ref 243, PySem.Value.ref 244, PySem.Value.int 510 0, PySem.Value.int 126 0, PySem.Value.str (PySem.Str.ofString "/claim/cut.py") 511] }) ::
  (nat_lit 246, { cls := PySem.Value.type "function", data := PySem.Data.func { name := PySem.Str.ofString "_law_next", qualname := PySem.Str.ofString "_law_next", params := (by apply (?gparamsL246 : (x : Arguments) → Is L246.params x → Arguments); (case a => (dsimp only [L246]; exact ⟨rfl⟩)); exact fun x _ => x), body := PySem.FuncBody.stmts (by apply (?gbodyL246 : (x : List Stmt) → Is L246.body x → List Stmt); (case a => (dsimp only [L246]; exact ⟨rfl⟩)); exact fun x _ => x), scope := (by apply (?gscopeL246 : (x : Scope) → Is L246.scope x → Scope); (case a => (dsimp only [L246]; exact ⟨rfl⟩)); exact fun x _ => x), globals := 3, closure := [], defaults := PySem.Value.none, kwdefaults := PySem.Value.none, pyModule := PySem.Value.str (PySem.Str.ofString "law_pc0369_01") 494, code := PySem.Value.ref 245 } }) ::
  (nat_lit 247, { cls := PySem.Value.type "tuple", data := PySem.Data.seq #[] }) ::
  (nat_lit 249, { cls := PySem.Value.type "tuple", data := PySem.Data.seq #[PySem.Value.str (PySem.Str.ofString "source") 516, PySem.Value.str (PySem.Str.ofString "things") 517] }) ::
  (nat_lit 250, { cls := PySem.Value.type "tuple", data := PySem.Data.seq #[] }) ::
  (nat_lit 252, { cls := PySem.Value.type "code", data := PySem.Data.fields #[PySem.Value.str (PySem.Str.ofString "_law_pick") 513, PySem.Value.str (PySem.Str.ofString "_law_pick") 514, PySem.Value.str (PySem.Str.ofString "/claim/cut.py") 515, PySem.Value.int 132 0, PySem.Value.int 2 0, PySem.Value.int 0 0, PySem.Value.int 0 0, PySem.Value.int 3 0, PySem.Value.ref 247, PySem.Value.bool Bool.true, PySem.Value.int 181 0, PySem.Value.ref 248, PySem.Value.none, PySem.Value.ref 249, PySem.Value.ref 250, PySem.Value.ref 251, PySem.Value.int 518 0, PySem.Value.int 132 0, PySem.Value.str (PySem.Str.ofString "/claim/cut.py") 519] }) ::
  (nat_lit 253, { cls := PySem.Value.type "function", data := PySem.Data.func { name := PySem.Str.ofString "_law_pick", qualname := PySem.Str.ofString "_law_pick", params := (by apply (?gparamsL253 : (x : Arguments) → Is L253.params x → Arguments); (case a => (dsimp only [L253]; exact ⟨rfl⟩)); exact fun x _ => x), body := PySem.FuncBody.stmts (by apply (?gbodyL253 : (x : List Stmt) → Is L253.body x → List Stmt); (case a => (dsimp only [L253]; exact ⟨rfl⟩)); exact fun x _ => x), scope := (by apply (?gscopeL253 : (x : Scope) → Is L253.scope x → Scope); (case a => (dsimp only [L253]; exact ⟨rfl⟩)); exact fun x _ => x), globals := 3, closure := [], defaults := PySem.Value.none, kwdefaults := PySem.Value.none, pyModule := PySem.Value.str (PySem.Str.ofString "law_pc0369_01") 494, code := PySem.Value.ref 252 } }) ::
  (nat_lit 254, { cls := PySem.Value.type "tuple", data := PySem.Data.seq #[] }) ::
  (nat_lit 256, { cls := PySem.Value.type "tuple", data := PySem.Data.seq #[PySem.Value.str (PySem.Str.ofString "one") 524, PySem.Value.str (PySem.Str.ofString "other") 525] }) ::
  (nat_lit 257, { cls := PySem.Value.type "tuple", data := PySem.Data.seq #[] }) ::
  (nat_lit 259, { cls := PySem.Value.type "code", data := PySem.Data.fields #[PySem.Value.str (PySem.Str.ofString "_law_less") 521, PySem.Value.str (PySem.Str.ofString "_law_less") 522, PySem.Value.str (PySem.Str.ofString "/claim/cut.py") 523, PySem.Value.int 134 0, PySem.Value.int 2 0, PySem.Value.int 0 0, PySem.Value.int 0 0, PySem.Value.int 3 0, PySem.Value.ref 254, PySem.Value.bool Bool.true, PySem.Value.int 181 0, PySem.Value.ref 255, PySem.Value.none, PySem.Value.ref 256, PySem.Value.ref 257, PySem.Value.ref 258, PySem.Value.int 526 0, PySem.Value.int 134 0, PySem.Value.str (PySem.Str.ofString "/claim/cut.py") 527] }) ::
  (nat_lit 260, { cls := PySem.Value.type "function", data := PySem.Data.func { name := PySem.Str.ofString "_law_less", qualname := PySem.Str.ofString "_law_less", params := (by apply (?gparamsL260 : (x : Arguments) → Is L260.params x → Arguments); (case a => (dsimp only [L260]; exact ⟨rfl⟩)); exact fun x _ => x), body := PySem.FuncBody.stmts (by apply (?gbodyL260 : (x : List Stmt) → Is L260.body x → List Stmt); (case a => (dsimp only [L260]; exact ⟨rfl⟩)); exact fun x _ => x), scope := (by apply (?gscopeL260 : (x : Scope) → Is L260.scope x → Scope); (case a => (dsimp only [L260]; exact ⟨rfl⟩)); exact fun x _ => x), globals := 3, closure := [], defaults := PySem.Value.none, kwdefaults := PySem.Value.none, pyModule := PySem.Value.str (PySem.Str.ofString "law_pc0369_01") 494, code := PySem.Value.ref 259 } }) ::
  (nat_lit 261, { cls := PySem.Value.type "tuple", data := PySem.Data.seq #[] }) ::
  (nat_lit 263, { cls := PySem.Value.type "tuple", data := PySem.Data.seq #[PySem.Value.str (PySem.Str.ofString "one") 532, PySem.Value.str (PySem.Str.ofString "other") 533] }) ::
  (nat_lit 264, { cls := PySem.Value.type "tuple", data := PySem.Data.seq #[] }) ::
  (nat_lit 266, { cls := PySem.Value.type "code", data := PySem.Data.fields #[PySem.Value.str (PySem.Str.ofString "_law_greater_of") 529, PySem.Value.str (PySem.Str.ofString "_law_greater_of") 530, PySem.Value.str (PySem.Str.ofString "/claim/cut.py") 531, PySem.Value.int 136 0, PySem.Value.int 2 0, PySem.Value.int 0 0, PySem.Value.int 0 0, PySem.Value.int 3 0, PySem.Value.ref 261, PySem.Value.bool Bool.true, PySem.Value.int 181 0, PySem.Value.ref 262, PySem.Value.none, PySem.Value.ref 263, PySem.Value.ref 264, PySem.Value.ref 265, PySem.Value.int 534 0, PySem.Value.int 136 0, PySem.Value.str (PySem.Str.ofString "/claim/cut.py") 535] }) ::
  (nat_lit 267, { cls := PySem.Value.type "function", data := PySem.Data.func { name := PySem.Str.ofString "_law_greater_of", qualname := PySem.Str.ofString "_law_greater_of", params := (by apply (?gparamsL267 : (x : Arguments) → Is L267.params x → Arguments); (case a => (dsimp only [L267]; exact ⟨rfl⟩)); exact fun x _ => x), body := PySem.FuncBody.stmts (by apply (?gbodyL267 : (x : List Stmt) → Is L267.body x → List Stmt); (case a => (dsimp only [L267]; exact ⟨rfl⟩)); exact fun x _ => x), scope := (by apply (?gscopeL267 : (x : Scope) → Is L267.scope x → Scope); (case a => (dsimp only [L267]; exact ⟨rfl⟩)); exact fun x _ => x), globals := 3, closure := [], defaults := PySem.Value.none, kwdefaults := PySem.Value.none, pyModule := PySem.Value.str (PySem.Str.ofString "law_pc0369_01") 494, code := PySem.Value.ref 266 } }) ::
  (nat_lit 268, { cls := PySem.Value.type "tuple", data := PySem.Data.seq #[] }) ::
  (nat_lit 271, { cls := PySem.Value.type "code", data := PySem.Data.fields #[PySem.Value.str (PySem.Str.ofString "_law_put") 537, PySem.Value.str (PySem.Str.ofString "_law_put") 538, PySem.Value.str (PySem.Str.ofString "/claim/cut.py") 539, PySem.Value.int 138 0, PySem.Value.int 4 0, PySem.Value.int 0 0, PySem.Value.int 0 0, PySem.Value.int 3 0, PySem.Value.ref 268, PySem.Value.bool Bool.true, PySem.Value.int 181 0, PySem.Value.ref 269, PySem.Value.none, PySem.Value.none, PySem.Value.none, PySem.Value.ref 270, PySem.Value.int 540 0, PySem.Value.int 138 0, PySem.Value.str (PySem.Str.ofString "/claim/cut.py") 541] }) ::
  (nat_lit 272, { cls := PySem.Value.type "function", data := PySem.Data.func { name := PySem.Str.ofString "_law_put", qualname := PySem.Str.ofString "_law_put", params := (by apply (?gparamsL272 : (x : Arguments) → Is L272.params x → Arguments); (case a => (dsimp only [L272]; exact ⟨rfl⟩)); exact fun x _ => x), body := PySem.FuncBody.stmts (by apply (?gbodyL272 : (x : List Stmt) → Is L272.body x → List Stmt); (case a => (dsimp only [L272]; exact ⟨rfl⟩)); exact fun x _ => x), scope := (by apply (?gscopeL272 : (x : Scope) → Is L272.scope x → Scope); (case a => (dsimp only [L272]; exact ⟨rfl⟩)); exact fun x _ => x), globals := 3, closure := [], defaults := PySem.Value.none, kwdefaults := PySem.Value.none, pyModule := PySem.Value.str (PySem.Str.ofString "law_pc0369_01") 494, code := PySem.Value.ref 271 } }) ::
  (nat_lit 273, { cls := PySem.Value.type "tuple", data := PySem.Data.seq #[] }) ::
  (nat_lit 275, { cls := PySem.Value.type "tuple", data := PySem.Data.seq #[PySem.Value.str (PySem.Str.ofString "own") 546, PySem.Value.str (PySem.Str.ofString "allowed") 547, PySem.Value.str (PySem.Str.ofString "best") 548, PySem.Value.str (PySem.Str.ofString "k") 549, PySem.Value.str (PySem.Str.ofString "row") 550, PySem.Value.str (PySem.Str.ofString "finish") 551, PySem.Value.str (PySem.Str.ofString "size") 552, PySem.Value.str (PySem.Str.ofString "thing") 553] }) ::
  (nat_lit 276, { cls := PySem.Value.type "tuple", data := PySem.Data.seq #[] }) ::
  (nat_lit 278, { cls := PySem.Value.type "code", data := PySem.Data.fields #[PySem.Value.str (PySem.Str.ofString "_law_taken") 543, PySem.Value.str (PySem.Str.ofString "_law_taken") 544, PySem.Value.str (PySem.Str.ofString "/claim/cut.py") 545, PySem.Value.int 144 0, PySem.Value.int 2 0, PySem.Value.int 0 0, PySem.Value.int 0 0, PySem.Value.int 3 0, PySem.Value.ref 273, PySem.Value.bool Bool.true, PySem.Value.int 181 0, PySem.Value.ref 274, PySem.Value.none, PySem.Value.ref 275, PySem.Value.ref 276, PySem.Value.ref 277, PySem.Value.int 554 0, PySem.Value.int 144 0, PySem.Value.str (PySem.Str.ofString "/claim/cut.py") 555] }) ::
  (nat_lit 279, { cls := PySem.Value.type "function", data := PySem.Data.func { name := PySem.Str.ofString "_law_taken", qualname := PySem.Str.ofString "_law_taken", params := (by apply (?gparamsL279 : (x : Arguments) → Is L279.params x → Arguments); (case a => (dsimp only [L279]; exact ⟨rfl⟩)); exact fun x _ => x), body := PySem.FuncBody.stmts (by apply (?gbodyL279 : (x : List Stmt) → Is L279.body x → List Stmt); (case a => (dsimp only [L279]; exact ⟨rfl⟩)); exact fun x _ => x), scope := (by apply (?gscopeL279 : (x : Scope) → Is L279.scope x → Scope); (case a => (dsimp only [L279]; exact ⟨rfl⟩)); exact fun x _ => x), globals := 3, closure := [], defaults := PySem.Value.none, kwdefaults := PySem.Value.none, pyModule := PySem.Value.str (PySem.Str.ofString "law_pc0369_01") 494, code := PySem.Value.ref 278 } }) ::
  (nat_lit 280, { cls := PySem.Value.type "tuple", data := PySem.Data.seq #[] }) ::
  (nat_lit 283, { cls := PySem.Value.type "code", data := PySem.Data.fields #[PySem.Value.str (PySem.Str.ofString "_law_deeds_right") 557, PySem.Value.str (PySem.Str.ofString "_law_deeds_right") 558, PySem.Value.str (PySem.Str.ofString "/claim/cut.py") 559, PySem.Value.int 155 0, PySem.Value.int 2 0, PySem.Value.int 0 0, PySem.Value.int 0 0, PySem.Value.int 3 0, PySem.Value.ref 280, PySem.Value.bool Bool.true, PySem.Value.int 181 0, PySem.Value.ref 281, PySem.Value.none, PySem.Value.none, PySem.Value.none, PySem.Value.ref 282, PySem.Value.int 560 0, PySem.Value.int 155 0, PySem.Value.str (PySem.Str.ofString "/claim/cut.py") 561] }) ::
  (nat_lit 284, { cls := PySem.Value.type "function", data := PySem.Data.func { name := PySem.Str.ofString "_law_deeds_right", qualname := PySem.Str.ofString "_law_deeds_right", params := (by apply (?gparamsL284 : (x : Arguments) → Is L284.params x → Arguments); (case a => (dsimp only [L284]; exact ⟨rfl⟩)); exact fun x _ => x), body := PySem.FuncBody.stmts (by apply (?gbodyL284 : (x : List Stmt) → Is L284.body x → List Stmt); (case a => (dsimp only [L284]; exact ⟨rfl⟩)); exact fun x _ => x), scope := (by apply (?gscopeL284 : (x : Scope) → Is L284.scope x → Scope); (case a => (dsimp only [L284]; exact ⟨rfl⟩)); exact fun x _ => x), globals := 3, closure := [], defaults := PySem.Value.none, kwdefaults := PySem.Value.none, pyModule := PySem.Value.str (PySem.Str.ofString "law_pc0369_01") 494, code := PySem.Value.ref 283 } }) ::
  (nat_lit 285, { cls := PySem.Value.type "tuple", data := PySem.Data.seq #[] }) ::
  (nat_lit 288, { cls := PySem.Value.type "code", data := PySem.Data.fields #[PySem.Value.str (PySem.Str.ofString "_law_bound_right") 563, PySem.Value.str (PySem.Str.ofString "_law_bound_right") 564, PySem.Value.str (PySem.Str.ofString "/claim/cut.py") 565, PySem.Value.int 173 0, PySem.Value.int 2 0, PySem.Value.int 0 0, PySem.Value.int 0 0, PySem.Value.int 3 0, PySem.Value.ref 285, PySem.Value.bool Bool.true, PySem.Value.int 181 0, PySem.Value.ref 286, PySem.Value.none, PySem.Value.none, PySem.Value.none, PySem.Value.ref 287, PySem.Value.int 566 0, PySem.Value.int 173 0, PySem.Value.str (PySem.Str.ofString "/claim/cut.py") 567] }) ::
  (nat_lit 289, { cls := PySem.Value.type "function", data := PySem.Data.func { name := PySem.Str.ofString "_law_bound_right", qualname := PySem.Str.ofString "_law_bound_right", params := (by apply (?gparamsL289 : (x : Arguments) → Is L289.params x → Arguments); (case a => (dsimp only [L289]; exact ⟨rfl⟩)); exact fun x _ => x), body := PySem.FuncBody.stmts (by apply (?gbodyL289 : (x : List Stmt) → Is L289.body x → List Stmt); (case a => (dsimp only [L289]; exact ⟨rfl⟩)); exact fun x _ => x), scope := (by apply (?gscopeL289 : (x : Scope) → Is L289.scope x → Scope); (case a => (dsimp only [L289]; exact ⟨rfl⟩)); exact fun x _ => x), globals := 3, closure := [], defaults := PySem.Value.none, kwdefaults := PySem.Value.none, pyModule := PySem.Value.str (PySem.Str.ofString "law_pc0369_01") 494, code := PySem.Value.ref 288 } }) ::
  (nat_lit 290, { cls := PySem.Value.type "tuple", data := PySem.Data.seq #[] }) ::
  (nat_lit 293, { cls := PySem.Value.type "code", data := PySem.Data.fields #[PySem.Value.str (PySem.Str.ofString "_law_curve_right") 569, PySem.Value.str (PySem.Str.ofString "_law_curve_right") 570, PySem.Value.str (PySem.Str.ofString "/claim/cut.py") 571, PySem.Value.int 187 0, PySem.Value.int 1 0, PySem.Value.int 0 0, PySem.Value.int 0 0, PySem.Value.int 3 0, PySem.Value.ref 290, PySem.Value.bool Bool.true, PySem.Value.int 181 0, PySem.Value.ref 291, PySem.Value.none, PySem.Value.none, PySem.Value.none, PySem.Value.ref 292, PySem.Value.int 572 0, PySem.Value.int 187 0, PySem.Value.str (PySem.Str.ofString "/claim/cut.py") 573] }) ::
  (nat_lit 294, { cls := PySem.Value.type "function", data := PySem.Data.func { name := PySem.Str.ofString "_law_curve_right", qualname := PySem.Str.ofString "_law_curve_right", params := (by apply (?gparamsL294 : (x : Arguments) → Is L294.params x → Arguments); (case a => (dsimp only [L294]; exact ⟨rfl⟩)); exact fun x _ => x), body := PySem.FuncBody.stmts (by apply (?gbodyL294 : (x : List Stmt) → Is L294.body x → List Stmt); (case a => (dsimp only [L294]; exact ⟨rfl⟩)); exact fun x _ => x), scope := (by apply (?gscopeL294 : (x : Scope) → Is L294.scope x → Scope); (case a => (dsimp only [L294]; exact ⟨rfl⟩)); exact fun x _ => x), globals := 3, closure := [], defaults := PySem.Value.none, kwdefaults := PySem.Value.none, pyModule := PySem.Value.str (PySem.Str.ofString "law_pc0369_01") 494, code := PySem.Value.ref 293 } }) ::
  (nat_lit 295, { cls := PySem.Value.type "tuple", data := PySem.Data.seq #[] }) ::
  (nat_lit 297, { cls := PySem.Value.type "tuple", data := PySem.Data.seq #[PySem.Value.str (PySem.Str.ofString "call") 578] }) ::
  (nat_lit 298, { cls := PySem.Value.type "tuple", data := PySem.Data.seq #[] }) ::
  (nat_lit 300, { cls := PySem.Value.type "code", data := PySem.Data.fields #[PySem.Value.str (PySem.Str.ofString "_law_refused") 575, PySem.Value.str (PySem.Str.ofString "_law_refused") 576, PySem.Value.str (PySem.Str.ofString "/claim/cut.py") 577, PySem.Value.int 205 0, PySem.Value.int 1 0, PySem.Value.int 0 0, PySem.Value.int 0 0, PySem.Value.int 3 0, PySem.Value.ref 295, PySem.Value.bool Bool.true, PySem.Value.int 181 0, PySem.Value.ref 296, PySem.Value.none, PySem.Value.ref 297, PySem.Value.ref 298, PySem.Value.ref 299, PySem.Value.int 579 0, PySem.Value.int 205 0, PySem.Value.str (PySem.Str.ofString "/claim/cut.py") 580] }) ::
  (nat_lit 301, { cls := PySem.Value.type "function", data := PySem.Data.func { name := PySem.Str.ofString "_law_refused", qualname := PySem.Str.ofString "_law_refused", params := (by apply (?gparamsL301 : (x : Arguments) → Is L301.params x → Arguments); (case a => (dsimp only [L301]; exact ⟨rfl⟩)); exact fun x _ => x), body := PySem.FuncBody.stmts (by apply (?gbodyL301 : (x : List Stmt) → Is L301.body x → List Stmt); (case a => (dsimp only [L301]; exact ⟨rfl⟩)); exact fun x _ => x), scope := (by apply (?gscopeL301 : (x : Scope) → Is L301.scope x → Scope); (case a => (dsimp only [L301]; exact ⟨rfl⟩)); exact fun x _ => x), globals := 3, closure := [], defaults := PySem.Value.none, kwdefaults := PySem.Value.none, pyModule := PySem.Value.str (PySem.Str.ofString "law_pc0369_01") 494, code := PySem.Value.ref 300 } }) ::
  (nat_lit 302, { cls := PySem.Value.type "tuple", data := PySem.Data.seq #[] }) ::
  (nat_lit 305, { cls := PySem.Value.type "code", data := PySem.Data.fields #[PySem.Value.str (PySem.Str.ofString "law") 582, PySem.Value.str (PySem.Str.ofString "law") 583, PySem.Value.str (PySem.Str.ofString "/claim/cut.py") 584, PySem.Value.int 211 0, PySem.Value.int 1 0, PySem.Value.int 0 0, PySem.Value.int 0 0, PySem.Value.int 3 0, PySem.Value.ref 302, PySem.Value.bool Bool.true, PySem.Value.int 181 0, PySem.Value.ref 303, PySem.Value.none, PySem.Value.none, PySem.Value.none, PySem.Value.ref 304, PySem.Value.int 585 0, PySem.Value.int 211 0, PySem.Value.str (PySem.Str.ofString "/claim/cut.py") 586] }) ::
  (nat_lit 306, { cls := PySem.Value.type "function", data := PySem.Data.func { name := PySem.Str.ofString "law", qualname := PySem.Str.ofString "law", params := (by apply (?gparamsL306 : (x : Arguments) → Is L306.params x → Arguments); (case a => (dsimp only [L306]; exact ⟨rfl⟩)); exact fun x _ => x), body := PySem.FuncBody.stmts (by apply (?gbodyL306 : (x : List Stmt) → Is L306.body x → List Stmt); (case a => (dsimp only [L306]; exact ⟨rfl⟩)); exact fun x _ => x), scope := (by apply (?gscopeL306 : (x : Scope) → Is L306.scope x → Scope); (case a => (dsimp only [L306]; exact ⟨rfl⟩)); exact fun x _ => x), globals := 3, closure := [], defaults := PySem.Value.none, kwdefaults := PySem.Value.none, pyModule := PySem.Value.str (PySem.Str.ofString "law_pc0369_01") 494, code := PySem.Value.ref 305 } }) ::
  []
@[reducible] noncomputable def asK : List Nat := nat_lit 2 :: nat_lit 3 :: nat_lit 15 :: nat_lit 17 :: nat_lit 18 :: nat_lit 20 :: nat_lit 21 :: nat_lit 22 :: nat_lit 29 :: nat_lit 31 :: nat_lit 32 :: nat_lit 34 :: nat_lit 35 :: nat_lit 36 :: nat_lit 37 :: nat_lit 38 :: nat_lit 39 :: nat_lit 42 :: nat_lit 49 :: nat_lit 50 :: nat_lit 52 :: nat_lit 53 :: nat_lit 55 :: nat_lit 56 :: nat_lit 57 :: nat_lit 58 :: nat_lit 59 :: nat_lit 69 :: nat_lit 71 :: nat_lit 72 :: nat_lit 74 :: nat_lit 75 :: nat_lit 76 :: nat_lit 78 :: nat_lit 79 :: nat_lit 81 :: nat_lit 82 :: nat_lit 83 :: nat_lit 85 :: nat_lit 86 :: nat_lit 88 :: nat_lit 89 :: nat_lit 90 :: nat_lit 92 :: nat_lit 93 :: nat_lit 95 :: nat_lit 96 :: nat_lit 97 :: nat_lit 99 :: nat_lit 100 :: nat_lit 102 :: nat_lit 103 :: nat_lit 104 :: nat_lit 105 :: nat_lit 106 :: nat_lit 107 :: nat_lit 108 :: nat_lit 111 :: nat_lit 113 :: nat_lit 114 :: nat_lit 116 :: nat_lit 117 :: nat_lit 118 :: nat_lit 120 :: nat_lit 121 :: nat_lit 123 :: nat_lit 124 :: nat_lit 132 :: nat_lit 135 :: nat_lit 136 :: nat_lit 137 :: nat_lit 139 :: nat_lit 140 :: nat_lit 142 :: nat_lit 143 :: nat_lit 144 :: nat_lit 145 :: nat_lit 148 :: nat_lit 149 :: nat_lit 150 :: nat_lit 151 :: nat_lit 153 :: nat_lit 154 :: nat_lit 156 :: nat_lit 157 :: nat_lit 158 :: nat_lit 161 :: nat_lit 162 :: nat_lit 163 :: nat_lit 164 :: nat_lit 165 :: nat_lit 166 :: nat_lit 167 :: nat_lit 177 :: nat_lit 179 :: nat_lit 180 :: nat_lit 182 :: nat_lit 183 :: nat_lit 184 :: nat_lit 186 :: nat_lit 187 :: nat_lit 189 :: nat_lit 190 :: nat_lit 191 :: nat_lit 192 :: nat_lit 193 :: nat_lit 194 :: nat_lit 195 :: nat_lit 205 :: nat_lit 207 :: nat_lit 208 :: nat_lit 210 :: nat_lit 211 :: nat_lit 212 :: nat_lit 214 :: nat_lit 215 :: nat_lit 217 :: nat_lit 218 :: nat_lit 219 :: nat_lit 221 :: nat_lit 222 :: nat_lit 224 :: nat_lit 225 :: nat_lit 226 :: nat_lit 227 :: nat_lit 228 :: nat_lit 229 :: nat_lit 230 :: nat_lit 233 :: nat_lit 235 :: nat_lit 236 :: nat_lit 238 :: nat_lit 239 :: nat_lit 240 :: nat_lit 242 :: nat_lit 243 :: nat_lit 245 :: nat_lit 246 :: nat_lit 247 :: nat_lit 249 :: nat_lit 250 :: nat_lit 252 :: nat_lit 253 :: nat_lit 254 :: nat_lit 256 :: nat_lit 257 :: nat_lit 259 :: nat_lit 260 :: nat_lit 261 :: nat_lit 263 :: nat_lit 264 :: nat_lit 266 :: nat_lit 267 :: nat_lit 268 :: nat_lit 271 :: nat_lit 272 :: nat_lit 273 :: nat_lit 275 :: nat_lit 276 :: nat_lit 278 :: nat_lit 279 :: nat_lit 280 :: nat_lit 283 :: nat_lit 284 :: nat_lit 285 :: nat_lit 288 :: nat_lit 289 :: nat_lit 290 :: nat_lit 293 :: nat_lit 294 :: nat_lit 295 :: nat_lit 297 :: nat_lit 298 :: nat_lit 300 :: nat_lit 301 :: nat_lit 302 :: nat_lit 305 :: nat_lit 306 :: []
noncomputable def hV : Program := { PySem.Challenge.pw_pc0369_01 with main := { PySem.Challenge.pw_pc0369_01.main with body := (by
  apply (?g : (x : List Stmt) → Is (cat (nth PySem.Challenge.pw_pc0369_01.main.body 0) (cat (nth PySem.Challenge.pw_pc0369_01.main.body 2) (cat (nth PySem.Challenge.pw_pc0369_01.main.body 3) (cat (nth PySem.Challenge.pw_pc0369_01.main.body 5) (cat (nth PySem.Challenge.pw_pc0369_01.main.body 6) (cat (nth PySem.Challenge.pw_pc0369_01.main.body 8) (cat (nth PySem.Challenge.pw_pc0369_01.main.body 9) (cat (nth PySem.Challenge.pw_pc0369_01.main.body 10) (cat (nth PySem.Challenge.pw_pc0369_01.main.body 11) (cat (nth PySem.Challenge.pw_pc0369_01.main.body 12) (cat (nth PySem.Challenge.pw_pc0369_01.main.body 14) (cat (nth PySem.Challenge.pw_pc0369_01.main.body 15) (cat (nth PySem.Challenge.pw_pc0369_01.main.body 16) (cat (nth PySem.Challenge.pw_pc0369_01.main.body 17) (cat (nth PySem.Challenge.pw_pc0369_01.main.body 18) (cat (nth PySem.Challenge.pw_pc0369_01.main.body 19) (cat (nth PySem.Challenge.pw_pc0369_01.main.body 20) (cat (nth PySem.Challenge.pw_pc0369_01.main.body 21) (cat (nth PySem.Challenge.pw_pc0369_01.main.body 22) (cat (nth PySem.Challenge.pw_pc0369_01.main.body 23) (cat (nth PySem.Challenge.pw_pc0369_01.main.body 24) (cat (nth PySem.Challenge.pw_pc0369_01.main.body 25) [])))))))))))))))))))))) x → List Stmt)
  case a => (dsimp only [PySem.Challenge.pw_pc0369_01, nth, cat]; exact ⟨rfl⟩)
  exact fun x _ => x) } }
theorem asK_ok : ∀ P, asK = (hK P).map (·.1) := fun _ => by kernel_rfl
@[reducible] noncomputable def HK : Hook := kmHook hK asK asK_ok [303]
noncomputable def pk (i : Nat) : Frag → Option Obj × Frag
  | [] => (none, [])
  | (a, o) :: r => match Nat.beq a i with
    | true => (some o, r)
    | false => (none, (a, o) :: r)
noncomputable def fo : Option Obj → Option Obj → Option Obj → Obj
  | some a, _, _ => a
  | none, some b, _ => b
  | none, none, some c => c
  | none, none, none => default
noncomputable def mg : Nat → Nat → Frag → Frag → Frag → List Obj
  | 0, _, _, _, _ => []
  | n + 1, i, v, x, k => fo (pk i v).1 (pk i x).1 (pk i k).1 :: mg n (i + 1) (pk i v).2 (pk i x).2 (pk i k).2
noncomputable def al : List Obj → List Obj
  | [] => []
  | [a] => [a]
  | a :: _ :: r => a :: al r
noncomputable def bt : Nat → List Obj → BT
  | 0, _ => .nil
  | _ + 1, [] => .nil
  | n + 1, a :: r => .node a (bt n (al r)) (bt n (al r.tail))
noncomputable def hX : Params → Frag := fun P =>
  (nat_lit 0, PySem.W.boot_o_0 P) ::
  (nat_lit 1, PySem.W.boot_o_1 P) ::
  (nat_lit 4, PySem.W.boot_o_4 P) ::
  (nat_lit 5, PySem.W.boot_o_5 P) ::
  (nat_lit 6, PySem.W.boot_o_6 P) ::
  (nat_lit 7, PySem.W.boot_o_7 P) ::
  (nat_lit 8, PySem.W.boot_o_8 P) ::
  (nat_lit 9, PySem.W.boot_o_9 P) ::
  (nat_lit 10, PySem.W.boot_o_10 P) ::
  (nat_lit 11, { cls := PySem.Value.type "tuple", data := PySem.Data.seq #[] }) ::
  (nat_lit 12, { cls := PySem.Value.none, data := PySem.Data.fields #[PySem.Value.int 1 0, PySem.Value.int 0 0, PySem.Value.ref 20, PySem.Value.int 5 0, PySem.Value.int 0 0, PySem.Value.ref 27, PySem.Value.int 10 0, PySem.Value.int 0 0, PySem.Value.ref 47, PySem.Value.int 16 0, PySem.Value.int 0 0, PySem.Value.ref 67, PySem.Value.int 45 0, PySem.Value.int 0 0, PySem.Value.ref 116, PySem.Value.int 49 0, PySem.Value.int 0 0, PySem.Value.ref 123, PySem.Value.int 57 0, PySem.Value.int 0 0, PySem.Value.ref 130, PySem.Value.int 95 0, PySem.Value.int 0 0, PySem.Value.ref 175, PySem.Value.int 104 0, PySem.Value.int 0 0, PySem.Value.ref 203, PySem.Value.int 123 0, PySem.Value.int 0 0, PySem.Value.ref 238, PySem.Value.int 126 0, PySem.Value.int 0 0, PySem.Value.ref 245, PySem.Value.int 132 0, PySem.Value.int 0 0, PySem.Value.ref 252, PySem.Value.int 134 0, PySem.Value.int 0 0, PySem.Value.ref 259, PySem.Value.int 136 0, PySem.Value.int 0 0, PySem.Value.ref 266, PySem.Value.int 138 0, PySem.Value.int 0 0, PySem.Value.ref 271, PySem.Value.int 144 0, PySem.Value.int 0 0, PySem.Value.ref 278, PySem.Value.int 155 0, PySem.Value.int 0 0, PySem.Value.ref 283, PySem.Value.int 173 0, PySem.Value.int 0 0, PySem.Value.ref 288, PySem.Value.int 187 0, PySem.Value.int 0 0, PySem.Value.ref 293, PySem.Value.int 205 0, PySem.Value.int 0 0, PySem.Value.ref 300, PySem.Value.int 211 0, PySem.Value.int 0 0, PySem.Value.ref 305] }) ::
  (nat_lit 13, { cls := PySem.Value.type "code", data := PySem.Data.fields #[PySem.Value.str (PySem.Str.ofString "<module>") 182, PySem.Value.str (PySem.Str.ofString "<module>") 183, PySem.Value.str (PySem.Str.ofString "/claim/cut.py") 184, PySem.Value.int 1 0, PySem.Value.int 0 0, PySem.Value.int 0 0, PySem.Value.int 0 0, PySem.Value.int 0 0, PySem.Value.ref 11, PySem.Value.bool Bool.false, PySem.Value.int 181 0, PySem.Value.ref 12, PySem.Value.none, PySem.Value.none, PySem.Value.none, PySem.Value.none, PySem.Value.int 185 0, PySem.Value.int 1 0, PySem.Value.str (PySem.Str.ofString "/claim/cut.py") 186] }) ::
  (nat_lit 14, { cls := PySem.Value.type "frame", slots := #[Option.some (PySem.Value.ref 13), Option.some (PySem.Value.ref 3), Option.some (PySem.Value.ref 3), Option.none, Option.some (PySem.Value.str (PySem.Str.ofString "__main__") 164), Option.none, Option.some (PySem.Value.ref 0)] }) ::
  (nat_lit 16, { cls := PySem.Value.none, data := PySem.Data.fields #[] }) ::
  (nat_lit 19, { cls := PySem.Value.none, data := PySem.Data.func { name := PySem.Str.ofString "_wall", qualname := PySem.Str.ofString "_wall", params := L21.params, body := PySem.FuncBody.stmts L21.body, scope := L21.scope, globals := 0, closure := [], defaults := PySem.Value.none, kwdefaults := PySem.Value.none } }) ::
  (nat_lit 23, { cls := PySem.Value.type "builtin_function_or_method", data := PySem.Data.fields #[PySem.Value.builtin "type.__prepare__", PySem.Value.type "type"] }) ::
  (nat_lit 24, { cls := PySem.Value.type "dict", data := PySem.Data.dict #[{ hash := PySem.PyData.keyHash P (PySem.Str.ofString "__module__"), key := PySem.Value.str (PySem.Str.ofString "__module__") 203, val := PySem.Value.str (PySem.Str.ofString "switchloom.errors") 194 }, { hash := PySem.PyData.keyHash P (PySem.Str.ofString "__qualname__"), key := PySem.Value.str (PySem.Str.ofString "__qualname__") 205, val := PySem.Value.str (PySem.Str.ofString "SwitchError") 204 }, { hash := PySem.PyData.keyHash P (PySem.Str.ofString "__firstlineno__"), key := PySem.Value.str (PySem.Str.ofString "__firstlineno__") 207, val := PySem.Value.int 5 206 }, { hash := PySem.PyData.keyHash P (PySem.Str.ofString "__init__"), key := PySem.Value.str (PySem.Str.ofString "__init__") 215, val := PySem.Value.ref 35 }, { hash := PySem.PyData.keyHash P (PySem.Str.ofString "__static_attributes__"), key := PySem.Value.str (PySem.Str.ofString "__static_attributes__") 217, val := PySem.Value.ref 36 }] 5 }) ::
  (nat_lit 25, { cls := PySem.Value.type "tuple", data := PySem.Data.seq #[] }) ::
  (nat_lit 26, { cls := PySem.Value.none, data := PySem.Data.fields #[PySem.Value.int 7 0, PySem.Value.int 4 0, PySem.Value.ref 34] }) ::
  (nat_lit 27, { cls := PySem.Value.type "code", data := PySem.Data.fields #[PySem.Value.str (PySem.Str.ofString "SwitchError") 198, PySem.Value.str (PySem.Str.ofString "SwitchError") 199, PySem.Value.str (PySem.Str.ofString "/claim/cut.py") 200, PySem.Value.int 5 0, PySem.Value.int 0 0, PySem.Value.int 0 0, PySem.Value.int 0 0, PySem.Value.int 0 0, PySem.Value.ref 25, PySem.Value.bool Bool.false, PySem.Value.int 181 0, PySem.Value.ref 26, PySem.Value.none, PySem.Value.none, PySem.Value.none, PySem.Value.none, PySem.Value.int 201 0, PySem.Value.int 5 0, PySem.Value.str (PySem.Str.ofString "/claim/cut.py") 202] }) ::
  (nat_lit 28, { cls := PySem.Value.type "frame", slots := #[Option.some (PySem.Value.ref 27), Option.some (PySem.Value.ref 3), Option.some (PySem.Value.ref 24), Option.none, Option.some (PySem.Value.str (PySem.Str.ofString "switchloom.errors") 194), Option.none, Option.some (PySem.Value.ref 0)] }) ::
  (nat_lit 30, { cls := PySem.Value.none, data := PySem.Data.fields #[] }) ::
  (nat_lit 33, { cls := PySem.Value.none, data := PySem.Data.func { name := PySem.Str.ofString "__init__", qualname := PySem.Str.ofString "SwitchError.__init__", params := L35.params, body := PySem.FuncBody.stmts L35.body, scope := L35.scope, globals := 0, closure := [], defaults := PySem.Value.none, kwdefaults := PySem.Value.none } }) ::
  (nat_lit 40, { cls := PySem.Value.type "super", data := PySem.Data.fields #[PySem.Value.ref 38, PySem.Value.ref 38, PySem.Value.ref 38] }) ::
  (nat_lit 41, { cls := PySem.Value.type "builtin_function_or_method", data := PySem.Data.fields #[PySem.Value.builtin "object.__init_subclass__", PySem.Value.ref 38] }) ::
  (nat_lit 43, { cls := PySem.Value.type "builtin_function_or_method", data := PySem.Data.fields #[PySem.Value.builtin "type.__prepare__", PySem.Value.type "type"] }) ::
  (nat_lit 44, { cls := PySem.Value.type "dict", data := PySem.Data.dict #[{ hash := PySem.PyData.keyHash P (PySem.Str.ofString "__module__"), key := PySem.Value.str (PySem.Str.ofString "__module__") 232, val := PySem.Value.str (PySem.Str.ofString "switchloom.errors") 194 }, { hash := PySem.PyData.keyHash P (PySem.Str.ofString "__qualname__"), key := PySem.Value.str (PySem.Str.ofString "__qualname__") 234, val := PySem.Value.str (PySem.Str.ofString "SettingError") 233 }, { hash := PySem.PyData.keyHash P (PySem.Str.ofString "__firstlineno__"), key := PySem.Value.str (PySem.Str.ofString "__firstlineno__") 236, val := PySem.Value.int 10 235 }, { hash := PySem.PyData.keyHash P (PySem.Str.ofString "__init__"), key := PySem.Value.str (PySem.Str.ofString "__init__") 246, val := PySem.Value.ref 56 }, { hash := PySem.PyData.keyHash P (PySem.Str.ofString "__static_attributes__"), key := PySem.Value.str (PySem.Str.ofString "__static_attributes__") 248, val := PySem.Value.ref 57 }] 5 }) ::
  (nat_lit 45, { cls := PySem.Value.type "tuple", data := PySem.Data.seq #[] }) ::
  (nat_lit 46, { cls := PySem.Value.none, data := PySem.Data.fields #[PySem.Value.int 12 0, PySem.Value.int 4 0, PySem.Value.ref 55] }) ::
  (nat_lit 47, { cls := PySem.Value.type "code", data := PySem.Data.fields #[PySem.Value.str (PySem.Str.ofString "SettingError") 227, PySem.Value.str (PySem.Str.ofString "SettingError") 228, PySem.Value.str (PySem.Str.ofString "/claim/cut.py") 229, PySem.Value.int 10 0, PySem.Value.int 0 0, PySem.Value.int 0 0, PySem.Value.int 0 0, PySem.Value.int 0 0, PySem.Value.ref 45, PySem.Value.bool Bool.false, PySem.Value.int 181 0, PySem.Value.ref 46, PySem.Value.none, PySem.Value.none, PySem.Value.none, PySem.Value.none, PySem.Value.int 230 0, PySem.Value.int 10 0, PySem.Value.str (PySem.Str.ofString "/claim/cut.py") 231] }) ::
  (nat_lit 48, { cls := PySem.Value.type "frame", slots := #[Option.some (PySem.Value.ref 47), Option.some (PySem.Value.ref 3), Option.some (PySem.Value.ref 44), Option.none, Option.some (PySem.Value.str (PySem.Str.ofString "switchloom.errors") 194), Option.none, Option.some (PySem.Value.ref 0)] }) ::
  (nat_lit 51, { cls := PySem.Value.none, data := PySem.Data.fields #[] }) ::
  (nat_lit 54, { cls := PySem.Value.none, data := PySem.Data.func { name := PySem.Str.ofString "__init__", qualname := PySem.Str.ofString "SettingError.__init__", params := L56.params, body := PySem.FuncBody.stmts L56.body, scope := L56.scope, globals := 0, closure := [], defaults := PySem.Value.none, kwdefaults := PySem.Value.none } }) ::
  (nat_lit 60, { cls := PySem.Value.type "super", data := PySem.Data.fields #[PySem.Value.ref 59, PySem.Value.ref 59, PySem.Value.ref 59] }) ::
  (nat_lit 61, { cls := PySem.Value.type "builtin_function_or_method", data := PySem.Data.fields #[PySem.Value.builtin "object.__init_subclass__", PySem.Value.ref 59] }) ::
  (nat_lit 62, { cls := PySem.Value.type "tuple", data := PySem.Data.seq #[] }) ::
  (nat_lit 63, { cls := PySem.Value.type "builtin_function_or_method", data := PySem.Data.fields #[PySem.Value.builtin "type.__prepare__", PySem.Value.type "type"] }) ::
  (nat_lit 64, { cls := PySem.Value.type "dict", data := PySem.Data.dict #[{ hash := PySem.PyData.keyHash P (PySem.Str.ofString "__module__"), key := PySem.Value.str (PySem.Str.ofString "__module__") 261, val := PySem.Value.str (PySem.Str.ofString "switchloom.queues") 252 }, { hash := PySem.PyData.keyHash P (PySem.Str.ofString "__qualname__"), key := PySem.Value.str (PySem.Str.ofString "__qualname__") 263, val := PySem.Value.str (PySem.Str.ofString "QueueRow") 262 }, { hash := PySem.PyData.keyHash P (PySem.Str.ofString "__firstlineno__"), key := PySem.Value.str (PySem.Str.ofString "__firstlineno__") 265, val := PySem.Value.int 16 264 }, { hash := PySem.PyData.keyHash P (PySem.Str.ofString "__init__"), key := PySem.Value.str (PySem.Str.ofString "__init__") 274, val := PySem.Value.ref 75 }, { hash := PySem.PyData.keyHash P (PySem.Str.ofString "put"), key := PySem.Value.str (PySem.Str.ofString "put") 283, val := PySem.Value.ref 82 }, { hash := PySem.PyData.keyHash P (PySem.Str.ofString "is_empty"), key := PySem.Value.str (PySem.Str.ofString "is_empty") 290, val := PySem.Value.ref 89 }, { hash := PySem.PyData.keyHash P (PySem.Str.ofString "head_size"), key := PySem.Value.str (PySem.Str.ofString "head_size") 297, val := PySem.Value.ref 96 }, { hash := PySem.PyData.keyHash P (PySem.Str.ofString "take"), key := PySem.Value.str (PySem.Str.ofString "take") 305, val := PySem.Value.ref 103 }, { hash := PySem.PyData.keyHash P (PySem.Str.ofString "__static_attributes__"), key := PySem.Value.str (PySem.Str.ofString "__static_attributes__") 311, val := PySem.Value.ref 104 }] 9 }) ::
  (nat_lit 65, { cls := PySem.Value.type "tuple", data := PySem.Data.seq #[] }) ::
  (nat_lit 66, { cls := PySem.Value.none, data := PySem.Data.fields #[PySem.Value.int 18 0, PySem.Value.int 4 0, PySem.Value.ref 74, PySem.Value.int 27 0, PySem.Value.int 4 0, PySem.Value.ref 81, PySem.Value.int 35 0, PySem.Value.int 4 0, PySem.Value.ref 88, PySem.Value.int 38 0, PySem.Value.int 4 0, PySem.Value.ref 95, PySem.Value.int 41 0, PySem.Value.int 4 0, PySem.Value.ref 102] }) ::
  (nat_lit 67, { cls := PySem.Value.type "code", data := PySem.Data.fields #[PySem.Value.str (PySem.Str.ofString "QueueRow") 256, PySem.Value.str (PySem.Str.ofString "QueueRow") 257, PySem.Value.str (PySem.Str.ofString "/claim/cut.py") 258, PySem.Value.int 16 0, PySem.Value.int 0 0, PySem.Value.int 0 0, PySem.Value.int 0 0, PySem.Value.int 0 0, PySem.Value.ref 65, PySem.Value.bool Bool.false, PySem.Value.int 181 0, PySem.Value.ref 66, PySem.Value.none, PySem.Value.none, PySem.Value.none, PySem.Value.none, PySem.Value.int 259 0, PySem.Value.int 16 0, PySem.Value.str (PySem.Str.ofString "/claim/cut.py") 260] }) ::
  (nat_lit 68, { cls := PySem.Value.type "frame", slots := #[Option.some (PySem.Value.ref 67), Option.some (PySem.Value.ref 3), Option.some (PySem.Value.ref 64), Option.none, Option.some (PySem.Value.str (PySem.Str.ofString "switchloom.queues") 252), Option.none, Option.some (PySem.Value.ref 0)] }) ::
  (nat_lit 70, { cls := PySem.Value.none, data := PySem.Data.fields #[] }) ::
  (nat_lit 73, { cls := PySem.Value.none, data := PySem.Data.func { name := PySem.Str.ofString "__init__", qualname := PySem.Str.ofString "QueueRow.__init__", params := L75.params, body := PySem.FuncBody.stmts L75.body, scope := L75.scope, globals := 0, closure := [], defaults := PySem.Value.none, kwdefaults := PySem.Value.none } }) ::
  (nat_lit 77, { cls := PySem.Value.none, data := PySem.Data.fields #[] }) ::
  (nat_lit 80, { cls := PySem.Value.none, data := PySem.Data.func { name := PySem.Str.ofString "put", qualname := PySem.Str.ofString "QueueRow.put", params := L82.params, body := PySem.FuncBody.stmts L82.body, scope := L82.scope, globals := 0, closure := [], defaults := PySem.Value.none, kwdefaults := PySem.Value.none } }) ::
  (nat_lit 84, { cls := PySem.Value.none, data := PySem.Data.fields #[] }) ::
  (nat_lit 87, { cls := PySem.Value.none, data := PySem.Data.func { name := PySem.Str.ofString "is_empty", qualname := PySem.Str.ofString "QueueRow.is_empty", params := L89.params, body := PySem.FuncBody.stmts L89.body, scope := L89.scope, globals := 0, closure := [], defaults := PySem.Value.none, kwdefaults := PySem.Value.none } }) ::
  (nat_lit 91, { cls := PySem.Value.none, data := PySem.Data.fields #[] }) ::
  (nat_lit 94, { cls := PySem.Value.none, data := PySem.Data.func { name := PySem.Str.ofString "head_size", qualname := PySem.Str.ofString "QueueRow.head_size", params := L96.params, body := PySem.FuncBody.stmts L96.body, scope := L96.scope, globals := 0, closure := [], defaults := PySem.Value.none, kwdefaults := PySem.Value.none } }) ::
  (nat_lit 98, { cls := PySem.Value.none, data := PySem.Data.fields #[] }) ::
  (nat_lit 101, { cls := PySem.Value.none, data := PySem.Data.func { name := PySem.Str.ofString "take", qualname := PySem.Str.ofString "QueueRow.take", params := L103.params, body := PySem.FuncBody.stmts L103.body, scope := L103.scope, globals := 0, closure := [], defaults := PySem.Value.none, kwdefaults := PySem.Value.none } }) ::
  (nat_lit 109, { cls := PySem.Value.type "super", data := PySem.Data.fields #[PySem.Value.ref 106, PySem.Value.ref 106, PySem.Value.ref 106] }) ::
  (nat_lit 110, { cls := PySem.Value.type "builtin_function_or_method", data := PySem.Data.fields #[PySem.Value.builtin "object.__init_subclass__", PySem.Value.ref 106] }) ::
  (nat_lit 112, { cls := PySem.Value.none, data := PySem.Data.fields #[] }) ::
  (nat_lit 115, { cls := PySem.Value.none, data := PySem.Data.func { name := PySem.Str.ofString "may_go", qualname := PySem.Str.ofString "may_go", params := L117.params, body := PySem.FuncBody.stmts L117.body, scope := L117.scope, globals := 0, closure := [], defaults := PySem.Value.none, kwdefaults := PySem.Value.none } }) ::
  (nat_lit 119, { cls := PySem.Value.none, data := PySem.Data.fields #[] }) ::
  (nat_lit 122, { cls := PySem.Value.none, data := PySem.Data.func { name := PySem.Str.ofString "least_multiple", qualname := PySem.Str.ofString "least_multiple", params := L124.params, body := PySem.FuncBody.stmts L124.body, scope := L124.scope, globals := 0, closure := [], defaults := PySem.Value.none, kwdefaults := PySem.Value.none } }) ::
  (nat_lit 125, { cls := PySem.Value.type "tuple", data := PySem.Data.seq #[] }) ::
  (nat_lit 126, { cls := PySem.Value.type "builtin_function_or_method", data := PySem.Data.fields #[PySem.Value.builtin "type.__prepare__", PySem.Value.type "type"] }) ::
  (nat_lit 127, { cls := PySem.Value.type "dict", data := PySem.Data.dict #[{ hash := PySem.PyData.keyHash P (PySem.Str.ofString "__module__"), key := PySem.Value.str (PySem.Str.ofString "__module__") 350, val := PySem.Value.str (PySem.Str.ofString "switchloom.fair_queues") 328 }, { hash := PySem.PyData.keyHash P (PySem.Str.ofString "__qualname__"), key := PySem.Value.str (PySem.Str.ofString "__qualname__") 352, val := PySem.Value.str (PySem.Str.ofString "WeightedFair") 351 }, { hash := PySem.PyData.keyHash P (PySem.Str.ofString "__firstlineno__"), key := PySem.Value.str (PySem.Str.ofString "__firstlineno__") 354, val := PySem.Value.int 57 353 }, { hash := PySem.PyData.keyHash P (PySem.Str.ofString "__init__"), key := PySem.Value.str (PySem.Str.ofString "__init__") 360, val := PySem.Value.ref 136 }, { hash := PySem.PyData.keyHash P (PySem.Str.ofString "put"), key := PySem.Value.str (PySem.Str.ofString "put") 370, val := PySem.Value.ref 143 }, { hash := PySem.PyData.keyHash P (PySem.Str.ofString "look"), key := PySem.Value.str (PySem.Str.ofString "look") 376, val := PySem.Value.ref 149 }, { hash := PySem.PyData.keyHash P (PySem.Str.ofString "take"), key := PySem.Value.str (PySem.Str.ofString "take") 385, val := PySem.Value.ref 157 }, { hash := PySem.PyData.keyHash P (PySem.Str.ofString "waiting"), key := PySem.Value.str (PySem.Str.ofString "waiting") 391, val := PySem.Value.ref 162 }, { hash := PySem.PyData.keyHash P (PySem.Str.ofString "__static_attributes__"), key := PySem.Value.str (PySem.Str.ofString "__static_attributes__") 398, val := PySem.Value.ref 163 }] 9 }) ::
  (nat_lit 128, { cls := PySem.Value.type "tuple", data := PySem.Data.seq #[] }) ::
  (nat_lit 129, { cls := PySem.Value.none, data := PySem.Data.fields #[PySem.Value.int 59 0, PySem.Value.int 4 0, PySem.Value.ref 135, PySem.Value.int 69 0, PySem.Value.int 4 0, PySem.Value.ref 142, PySem.Value.int 79 0, PySem.Value.int 4 0, PySem.Value.ref 148, PySem.Value.int 86 0, PySem.Value.int 4 0, PySem.Value.ref 156, PySem.Value.int 93 0, PySem.Value.int 4 0, PySem.Value.ref 161] }) ::
  (nat_lit 130, { cls := PySem.Value.type "code", data := PySem.Data.fields #[PySem.Value.str (PySem.Str.ofString "WeightedFair") 345, PySem.Value.str (PySem.Str.ofString "WeightedFair") 346, PySem.Value.str (PySem.Str.ofString "/claim/cut.py") 347, PySem.Value.int 57 0, PySem.Value.int 0 0, PySem.Value.int 0 0, PySem.Value.int 0 0, PySem.Value.int 0 0, PySem.Value.ref 128, PySem.Value.bool Bool.false, PySem.Value.int 181 0, PySem.Value.ref 129, PySem.Value.none, PySem.Value.none, PySem.Value.none, PySem.Value.none, PySem.Value.int 348 0, PySem.Value.int 57 0, PySem.Value.str (PySem.Str.ofString "/claim/cut.py") 349] }) ::
  (nat_lit 131, { cls := PySem.Value.type "frame", slots := #[Option.some (PySem.Value.ref 130), Option.some (PySem.Value.ref 3), Option.some (PySem.Value.ref 127), Option.none, Option.some (PySem.Value.str (PySem.Str.ofString "switchloom.fair_queues") 328), Option.none, Option.some (PySem.Value.ref 0)] }) ::
  (nat_lit 133, { cls := PySem.Value.none, data := PySem.Data.fields #[] }) ::
  (nat_lit 134, { cls := PySem.Value.none, data := PySem.Data.func { name := PySem.Str.ofString "__init__", qualname := PySem.Str.ofString "WeightedFair.__init__", params := L136.params, body := PySem.FuncBody.stmts L136.body, scope := L136.scope, globals := 0, closure := [], defaults := PySem.Value.none, kwdefaults := PySem.Value.none } }) ::
  (nat_lit 138, { cls := PySem.Value.none, data := PySem.Data.fields #[] }) ::
  (nat_lit 141, { cls := PySem.Value.none, data := PySem.Data.func { name := PySem.Str.ofString "put", qualname := PySem.Str.ofString "WeightedFair.put", params := L143.params, body := PySem.FuncBody.stmts L143.body, scope := L143.scope, globals := 0, closure := [], defaults := PySem.Value.none, kwdefaults := PySem.Value.none } }) ::
  (nat_lit 146, { cls := PySem.Value.none, data := PySem.Data.fields #[] }) ::
  (nat_lit 147, { cls := PySem.Value.none, data := PySem.Data.func { name := PySem.Str.ofString "look", qualname := PySem.Str.ofString "WeightedFair.look", params := L149.params, body := PySem.FuncBody.stmts L149.body, scope := L149.scope, globals := 0, closure := [], defaults := PySem.Value.none, kwdefaults := PySem.Value.none } }) ::
  (nat_lit 152, { cls := PySem.Value.none, data := PySem.Data.fields #[] }) ::
  (nat_lit 155, { cls := PySem.Value.none, data := PySem.Data.func { name := PySem.Str.ofString "take", qualname := PySem.Str.ofString "WeightedFair.take", params := L157.params, body := PySem.FuncBody.stmts L157.body, scope := L157.scope, globals := 0, closure := [], defaults := PySem.Value.none, kwdefaults := PySem.Value.none } }) ::
  (nat_lit 159, { cls := PySem.Value.none, data := PySem.Data.fields #[] }) ::
  (nat_lit 160, { cls := PySem.Value.none, data := PySem.Data.func { name := PySem.Str.ofString "waiting", qualname := PySem.Str.ofString "WeightedFair.waiting", params := L162.params, body := PySem.FuncBody.stmts L162.body, scope := L162.scope, globals := 0, closure := [], defaults := PySem.Value.none, kwdefaults := PySem.Value.none } }) ::
  (nat_lit 168, { cls := PySem.Value.type "super", data := PySem.Data.fields #[PySem.Value.ref 165, PySem.Value.ref 165, PySem.Value.ref 165] }) ::
  (nat_lit 169, { cls := PySem.Value.type "builtin_function_or_method", data := PySem.Data.fields #[PySem.Value.builtin "object.__init_subclass__", PySem.Value.ref 165] }) ::
  (nat_lit 170, { cls := PySem.Value.type "tuple", data := PySem.Data.seq #[] }) ::
  (nat_lit 171, { cls := PySem.Value.type "builtin_function_or_method", data := PySem.Data.fields #[PySem.Value.builtin "type.__prepare__", PySem.Value.type "type"] }) ::
  (nat_lit 172, { cls := PySem.Value.type "dict", data := PySem.Data.dict #[{ hash := PySem.PyData.keyHash P (PySem.Str.ofString "__module__"), key := PySem.Value.str (PySem.Str.ofString "__module__") 413, val := PySem.Value.str (PySem.Str.ofString "switchloom.fair_queues") 328 }, { hash := PySem.PyData.keyHash P (PySem.Str.ofString "__qualname__"), key := PySem.Value.str (PySem.Str.ofString "__qualname__") 415, val := PySem.Value.str (PySem.Str.ofString "AverageLevel") 414 }, { hash := PySem.PyData.keyHash P (PySem.Str.ofString "__firstlineno__"), key := PySem.Value.str (PySem.Str.ofString "__firstlineno__") 417, val := PySem.Value.int 95 416 }, { hash := PySem.PyData.keyHash P (PySem.Str.ofString "__init__"), key := PySem.Value.str (PySem.Str.ofString "__init__") 425, val := PySem.Value.ref 183 }, { hash := PySem.PyData.keyHash P (PySem.Str.ofString "told"), key := PySem.Value.str (PySem.Str.ofString "told") 433, val := PySem.Value.ref 190 }, { hash := PySem.PyData.keyHash P (PySem.Str.ofString "__static_attributes__"), key := PySem.Value.str (PySem.Str.ofString "__static_attributes__") 436, val := PySem.Value.ref 191 }] 6 }) ::
  (nat_lit 173, { cls := PySem.Value.type "tuple", data := PySem.Data.seq #[] }) ::
  (nat_lit 174, { cls := PySem.Value.none, data := PySem.Data.fields #[PySem.Value.int 97 0, PySem.Value.int 4 0, PySem.Value.ref 182, PySem.Value.int 101 0, PySem.Value.int 4 0, PySem.Value.ref 189] }) ::
  (nat_lit 175, { cls := PySem.Value.type "code", data := PySem.Data.fields #[PySem.Value.str (PySem.Str.ofString "AverageLevel") 408, PySem.Value.str (PySem.Str.ofString "AverageLevel") 409, PySem.Value.str (PySem.Str.ofString "/claim/cut.py") 410, PySem.Value.int 95 0, PySem.Value.int 0 0, PySem.Value.int 0 0, PySem.Value.int 0 0, PySem.Value.int 0 0, PySem.Value.ref 173, PySem.Value.bool Bool.false, PySem.Value.int 181 0, PySem.Value.ref 174, PySem.Value.none, PySem.Value.none, PySem.Value.none, PySem.Value.none, PySem.Value.int 411 0, PySem.Value.int 95 0, PySem.Value.str (PySem.Str.ofString "/claim/cut.py") 412] }) ::
  (nat_lit 176, { cls := PySem.Value.type "frame", slots := #[Option.some (PySem.Value.ref 175), Option.some (PySem.Value.ref 3), Option.some (PySem.Value.ref 172), Option.none, Option.some (PySem.Value.str (PySem.Str.ofString "switchloom.fair_queues") 328), Option.none, Option.some (PySem.Value.ref 0)] }) ::
  (nat_lit 178, { cls := PySem.Value.none, data := PySem.Data.fields #[] }) ::
  (nat_lit 181, { cls := PySem.Value.none, data := PySem.Data.func { name := PySem.Str.ofString "__init__", qualname := PySem.Str.ofString "AverageLevel.__init__", params := L183.params, body := PySem.FuncBody.stmts L183.body, scope := L183.scope, globals := 0, closure := [], defaults := PySem.Value.none, kwdefaults := PySem.Value.none } }) ::
  (nat_lit 185, { cls := PySem.Value.none, data := PySem.Data.fields #[] }) ::
  (nat_lit 188, { cls := PySem.Value.none, data := PySem.Data.func { name := PySem.Str.ofString "told", qualname := PySem.Str.ofString "AverageLevel.told", params := L190.params, body := PySem.FuncBody.stmts L190.body, scope := L190.scope, globals := 0, closure := [], defaults := PySem.Value.none, kwdefaults := PySem.Value.none } }) ::
  (nat_lit 196, { cls := PySem.Value.type "super", data := PySem.Data.fields #[PySem.Value.ref 193, PySem.Value.ref 193, PySem.Value.ref 193] }) ::
  (nat_lit 197, { cls := PySem.Value.type "builtin_function_or_method", data := PySem.Data.fields #[PySem.Value.builtin "object.__init_subclass__", PySem.Value.ref 193] }) ::
  (nat_lit 198, { cls := PySem.Value.type "tuple", data := PySem.Data.seq #[] }) ::
  (nat_lit 199, { cls := PySem.Value.type "builtin_function_or_method", data := PySem.Data.fields #[PySem.Value.builtin "type.__prepare__", PySem.Value.type "type"] }) ::
  (nat_lit 200, { cls := PySem.Value.type "dict", data := PySem.Data.dict #[{ hash := PySem.PyData.keyHash P (PySem.Str.ofString "__module__"), key := PySem.Value.str (PySem.Str.ofString "__module__") 451, val := PySem.Value.str (PySem.Str.ofString "switchloom.fair_queues") 328 }, { hash := PySem.PyData.keyHash P (PySem.Str.ofString "__qualname__"), key := PySem.Value.str (PySem.Str.ofString "__qualname__") 453, val := PySem.Value.str (PySem.Str.ofString "DropCurve") 452 }, { hash := PySem.PyData.keyHash P (PySem.Str.ofString "__firstlineno__"), key := PySem.Value.str (PySem.Str.ofString "__firstlineno__") 455, val := PySem.Value.int 104 454 }, { hash := PySem.PyData.keyHash P (PySem.Str.ofString "__init__"), key := PySem.Value.str (PySem.Str.ofString "__init__") 465, val := PySem.Value.ref 211 }, { hash := PySem.PyData.keyHash P (PySem.Str.ofString "share"), key := PySem.Value.str (PySem.Str.ofString "share") 473, val := PySem.Value.ref 218 }, { hash := PySem.PyData.keyHash P (PySem.Str.ofString "drops"), key := PySem.Value.str (PySem.Str.ofString "drops") 482, val := PySem.Value.ref 225 }, { hash := PySem.PyData.keyHash P (PySem.Str.ofString "__static_attributes__"), key := PySem.Value.str (PySem.Str.ofString "__static_attributes__") 486, val := PySem.Value.ref 226 }] 7 }) ::
  (nat_lit 201, { cls := PySem.Value.type "tuple", data := PySem.Data.seq #[] }) ::
  (nat_lit 202, { cls := PySem.Value.none, data := PySem.Data.fields #[PySem.Value.int 106 0, PySem.Value.int 4 0, PySem.Value.ref 210, PySem.Value.int 113 0, PySem.Value.int 4 0, PySem.Value.ref 217, PySem.Value.int 120 0, PySem.Value.int 4 0, PySem.Value.ref 224] }) ::
  (nat_lit 203, { cls := PySem.Value.type "code", data := PySem.Data.fields #[PySem.Value.str (PySem.Str.ofString "DropCurve") 446, PySem.Value.str (PySem.Str.ofString "DropCurve") 447, PySem.Value.str (PySem.Str.ofString "/claim/cut.py") 448, PySem.Value.int 104 0, PySem.Value.int 0 0, PySem.Value.int 0 0, PySem.Value.int 0 0, PySem.Value.int 0 0, PySem.Value.ref 201, PySem.Value.bool Bool.false, PySem.Value.int 181 0, PySem.Value.ref 202, PySem.Value.none, PySem.Value.none, PySem.Value.none, PySem.Value.none, PySem.Value.int 449 0, PySem.Value.int 104 0, PySem.Value.str (PySem.Str.ofString "/claim/cut.py") 450] }) ::
  (nat_lit 204, { cls := PySem.Value.type "frame", slots := #[Option.some (PySem.Value.ref 203), Option.some (PySem.Value.ref 3), Option.some (PySem.Value.ref 200), Option.none, Option.some (PySem.Value.str (PySem.Str.ofString "switchloom.fair_queues") 328), Option.none, Option.some (PySem.Value.ref 0)] }) ::
  (nat_lit 206, { cls := PySem.Value.none, data := PySem.Data.fields #[] }) ::
  (nat_lit 209, { cls := PySem.Value.none, data := PySem.Data.func { name := PySem.Str.ofString "__init__", qualname := PySem.Str.ofString "DropCurve.__init__", params := L211.params, body := PySem.FuncBody.stmts L211.body, scope := L211.scope, globals := 0, closure := [], defaults := PySem.Value.none, kwdefaults := PySem.Value.none } }) ::
  (nat_lit 213, { cls := PySem.Value.none, data := PySem.Data.fields #[] }) ::
  (nat_lit 216, { cls := PySem.Value.none, data := PySem.Data.func { name := PySem.Str.ofString "share", qualname := PySem.Str.ofString "DropCurve.share", params := L218.params, body := PySem.FuncBody.stmts L218.body, scope := L218.scope, globals := 0, closure := [], defaults := PySem.Value.none, kwdefaults := PySem.Value.none } }) ::
  (nat_lit 220, { cls := PySem.Value.none, data := PySem.Data.fields #[] }) ::
  (nat_lit 223, { cls := PySem.Value.none, data := PySem.Data.func { name := PySem.Str.ofString "drops", qualname := PySem.Str.ofString "DropCurve.drops", params := L225.params, body := PySem.FuncBody.stmts L225.body, scope := L225.scope, globals := 0, closure := [], defaults := PySem.Value.none, kwdefaults := PySem.Value.none } }) ::
  (nat_lit 231, { cls := PySem.Value.type "super", data := PySem.Data.fields #[PySem.Value.ref 228, PySem.Value.ref 228, PySem.Value.ref 228] }) ::
  (nat_lit 232, { cls := PySem.Value.type "builtin_function_or_method", data := PySem.Data.fields #[PySem.Value.builtin "object.__init_subclass__", PySem.Value.ref 228] }) ::
  (nat_lit 234, { cls := PySem.Value.none, data := PySem.Data.fields #[] }) ::
  (nat_lit 237, { cls := PySem.Value.none, data := PySem.Data.func { name := PySem.Str.ofString "_law_source", qualname := PySem.Str.ofString "_law_source", params := L239.params, body := PySem.FuncBody.stmts L239.body, scope := L239.scope, globals := 0, closure := [], defaults := PySem.Value.none, kwdefaults := PySem.Value.none } }) ::
  (nat_lit 241, { cls := PySem.Value.none, data := PySem.Data.fields #[] }) ::
  (nat_lit 244, { cls := PySem.Value.none, data := PySem.Data.func { name := PySem.Str.ofString "_law_next", qualname := PySem.Str.ofString "_law_next", params := L246.params, body := PySem.FuncBody.stmts L246.body, scope := L246.scope, globals := 0, closure := [], defaults := PySem.Value.none, kwdefaults := PySem.Value.none } }) ::
  (nat_lit 248, { cls := PySem.Value.none, data := PySem.Data.fields #[] }) ::
  (nat_lit 251, { cls := PySem.Value.none, data := PySem.Data.func { name := PySem.Str.ofString "_law_pick", qualname := PySem.Str.ofString "_law_pick", params := L253.params, body := PySem.FuncBody.stmts L253.body, scope := L253.scope, globals := 0, closure := [], defaults := PySem.Value.none, kwdefaults := PySem.Value.none } }) ::
  (nat_lit 255, { cls := PySem.Value.none, data := PySem.Data.fields #[] }) ::
  (nat_lit 258, { cls := PySem.Value.none, data := PySem.Data.func { name := PySem.Str.ofString "_law_less", qualname := PySem.Str.ofString "_law_less", params := L260.params, body := PySem.FuncBody.stmts L260.body, scope := L260.scope, globals := 0, closure := [], defaults := PySem.Value.none, kwdefaults := PySem.Value.none } }) ::
  (nat_lit 262, { cls := PySem.Value.none, data := PySem.Data.fields #[] }) ::
  (nat_lit 265, { cls := PySem.Value.none, data := PySem.Data.func { name := PySem.Str.ofString "_law_greater_of", qualname := PySem.Str.ofString "_law_greater_of", params := L267.params, body := PySem.FuncBody.stmts L267.body, scope := L267.scope, globals := 0, closure := [], defaults := PySem.Value.none, kwdefaults := PySem.Value.none } }) ::
  (nat_lit 269, { cls := PySem.Value.none, data := PySem.Data.fields #[] }) ::
  (nat_lit 270, { cls := PySem.Value.none, data := PySem.Data.func { name := PySem.Str.ofString "_law_put", qualname := PySem.Str.ofString "_law_put", params := L272.params, body := PySem.FuncBody.stmts L272.body, scope := L272.scope, globals := 0, closure := [], defaults := PySem.Value.none, kwdefaults := PySem.Value.none } }) ::
  (nat_lit 274, { cls := PySem.Value.none, data := PySem.Data.fields #[] }) ::
  (nat_lit 277, { cls := PySem.Value.none, data := PySem.Data.func { name := PySem.Str.ofString "_law_taken", qualname := PySem.Str.ofString "_law_taken", params := L279.params, body := PySem.FuncBody.stmts L279.body, scope := L279.scope, globals := 0, closure := [], defaults := PySem.Value.none, kwdefaults := PySem.Value.none } }) ::
  (nat_lit 281, { cls := PySem.Value.none, data := PySem.Data.fields #[] }) ::
  (nat_lit 282, { cls := PySem.Value.none, data := PySem.Data.func { name := PySem.Str.ofString "_law_deeds_right", qualname := PySem.Str.ofString "_law_deeds_right", params := L284.params, body := PySem.FuncBody.stmts L284.body, scope := L284.scope, globals := 0, closure := [], defaults := PySem.Value.none, kwdefaults := PySem.Value.none } }) ::
  (nat_lit 286, { cls := PySem.Value.none, data := PySem.Data.fields #[] }) ::
  (nat_lit 287, { cls := PySem.Value.none, data := PySem.Data.func { name := PySem.Str.ofString "_law_bound_right", qualname := PySem.Str.ofString "_law_bound_right", params := L289.params, body := PySem.FuncBody.stmts L289.body, scope := L289.scope, globals := 0, closure := [], defaults := PySem.Value.none, kwdefaults := PySem.Value.none } }) ::
  (nat_lit 291, { cls := PySem.Value.none, data := PySem.Data.fields #[] }) ::
  (nat_lit 292, { cls := PySem.Value.none, data := PySem.Data.func { name := PySem.Str.ofString "_law_curve_right", qualname := PySem.Str.ofString "_law_curve_right", params := L294.params, body := PySem.FuncBody.stmts L294.body, scope := L294.scope, globals := 0, closure := [], defaults := PySem.Value.none, kwdefaults := PySem.Value.none } }) ::
  (nat_lit 296, { cls := PySem.Value.none, data := PySem.Data.fields #[] }) ::
  (nat_lit 299, { cls := PySem.Value.none, data := PySem.Data.func { name := PySem.Str.ofString "_law_refused", qualname := PySem.Str.ofString "_law_refused", params := L301.params, body := PySem.FuncBody.stmts L301.body, scope := L301.scope, globals := 0, closure := [], defaults := PySem.Value.none, kwdefaults := PySem.Value.none } }) ::
  (nat_lit 303, { cls := PySem.Value.none, data := PySem.Data.fields #[] }) ::
  (nat_lit 304, { cls := PySem.Value.none, data := PySem.Data.func { name := PySem.Str.ofString "law", qualname := PySem.Str.ofString "law", params := L306.params, body := PySem.FuncBody.stmts L306.body, scope := L306.scope, globals := 0, closure := [], defaults := PySem.Value.none, kwdefaults := PySem.Value.none } }) ::
  []
noncomputable def V0 : Params → Frag := fun P =>
  (nat_lit 2, PySem.W.boot_o_2 P) ::
  (nat_lit 3, PySem.W.boot_o_3 P) ::
  (nat_lit 12, { cls := PySem.Value.none, data := PySem.Data.fields #[] }) :: []
noncomputable def Z0 (w : World) (os : OsState) : SharedT := ⟨bt 9 (mg 15 0 (V0 w.params) (hX w.params) (hK w.params)), 15, {}, #[], {}, 187, os⟩
noncomputable def V1 : Params → Frag := fun P =>
  (nat_lit 3, { cls := PySem.Value.type "dict", data := PySem.Data.dict #[{ hash := PySem.PyData.keyHash P (PySem.Str.ofString "__name__"), key := PySem.Value.str (PySem.Str.ofString "__name__") 165, val := PySem.Value.str (PySem.Str.ofString "switchloom.errors") 194 }, { hash := PySem.PyData.keyHash P (PySem.Str.ofString "__doc__"), key := PySem.Value.str (PySem.Str.ofString "__doc__") 166, val := PySem.Value.none }, { hash := PySem.PyData.keyHash P (PySem.Str.ofString "__package__"), key := PySem.Value.str (PySem.Str.ofString "__package__") 167, val := PySem.Value.none }, { hash := PySem.PyData.keyHash P (PySem.Str.ofString "__loader__"), key := PySem.Value.str (PySem.Str.ofString "__loader__") 168, val := PySem.Value.builtin "__main__.__loader__#opaque" }, { hash := PySem.PyData.keyHash P (PySem.Str.ofString "__spec__"), key := PySem.Value.str (PySem.Str.ofString "__spec__") 169, val := PySem.Value.none }, { hash := PySem.PyData.keyHash P (PySem.Str.ofString "__annotations__"), key := PySem.Value.str (PySem.Str.ofString "__annotations__") 170, val := PySem.Value.ref 6 }, { hash := PySem.PyData.keyHash P (PySem.Str.ofString "__builtins__"), key := PySem.Value.str (PySem.Str.ofString "__builtins__") 171, val := PySem.Value.ref 4 }, { hash := PySem.PyData.keyHash P (PySem.Str.ofString "__file__"), key := PySem.Value.str (PySem.Str.ofString "__file__") 173, val := PySem.Value.str (PySem.Str.ofString "/claim/cut.py") 172 }, { hash := PySem.PyData.keyHash P (PySem.Str.ofString "__cached__"), key := PySem.Value.str (PySem.Str.ofString "__cached__") 174, val := PySem.Value.none }, { hash := PySem.PyData.keyHash P (PySem.Str.ofString "_wall"), key := PySem.Value.str (PySem.Str.ofString "_wall") 193, val := PySem.Value.ref 21 }, { hash := PySem.PyData.keyHash P (PySem.Str.ofString "SwitchError"), key := PySem.Value.str (PySem.Str.ofString "SwitchError") 224, val := PySem.Value.ref 38 }] 11 }) ::
  (nat_lit 12, { cls := PySem.Value.none, data := PySem.Data.fields #[PySem.Value.int 1 0, PySem.Value.int 0 0, PySem.Value.ref 20, PySem.Value.int 5 0, PySem.Value.int 0 0, PySem.Value.ref 27] }) ::
  (nat_lit 38, { cls := PySem.Value.type "type", data := PySem.Data.cls { name := PySem.Str.ofString "SwitchError", bases := [PySem.Value.type "Exception"], mro := [PySem.Value.ref 38, PySem.Value.type "Exception", PySem.Value.type "BaseException", PySem.Value.type "object"], ns := 37, qualname := PySem.Str.ofString "SwitchError" }, slots := #[Option.some (PySem.Value.ref 22), Option.none, Option.some (PySem.Value.str (PySem.Str.ofString "SwitchError") 196), Option.some (PySem.Value.str (PySem.Str.ofString "SwitchError") 204), Option.some (PySem.Value.builtin "Exception.__new__"), Option.some (PySem.Value.bool Bool.true)] }) :: []
noncomputable def Z1 (w : World) (os : OsState) : SharedT := ⟨bt 9 (mg 42 0 (V1 w.params) (hX w.params) (hK w.params)), 42, {}, #[], {}, 225, os⟩
noncomputable def V2 : Params → Frag := fun P =>
  (nat_lit 3, { cls := PySem.Value.type "dict", data := PySem.Data.dict #[{ hash := PySem.PyData.keyHash P (PySem.Str.ofString "__name__"), key := PySem.Value.str (PySem.Str.ofString "__name__") 165, val := PySem.Value.str (PySem.Str.ofString "switchloom.errors") 194 }, { hash := PySem.PyData.keyHash P (PySem.Str.ofString "__doc__"), key := PySem.Value.str (PySem.Str.ofString "__doc__") 166, val := PySem.Value.none }, { hash := PySem.PyData.keyHash P (PySem.Str.ofString "__package__"), key := PySem.Value.str (PySem.Str.ofString "__package__") 167, val := PySem.Value.none }, { hash := PySem.PyData.keyHash P (PySem.Str.ofString "__loader__"), key := PySem.Value.str (PySem.Str.ofString "__loader__") 168, val := PySem.Value.builtin "__main__.__loader__#opaque" }, { hash := PySem.PyData.keyHash P (PySem.Str.ofString "__spec__"), key := PySem.Value.str (PySem.Str.ofString "__spec__") 169, val := PySem.Value.none }, { hash := PySem.PyData.keyHash P (PySem.Str.ofString "__annotations__"), key := PySem.Value.str (PySem.Str.ofString "__annotations__") 170, val := PySem.Value.ref 6 }, { hash := PySem.PyData.keyHash P (PySem.Str.ofString "__builtins__"), key := PySem.Value.str (PySem.Str.ofString "__builtins__") 171, val := PySem.Value.ref 4 }, { hash := PySem.PyData.keyHash P (PySem.Str.ofString "__file__"), key := PySem.Value.str (PySem.Str.ofString "__file__") 173, val := PySem.Value.str (PySem.Str.ofString "/claim/cut.py") 172 }, { hash := PySem.PyData.keyHash P (PySem.Str.ofString "__cached__"), key := PySem.Value.str (PySem.Str.ofString "__cached__") 174, val := PySem.Value.none }, { hash := PySem.PyData.keyHash P (PySem.Str.ofString "_wall"), key := PySem.Value.str (PySem.Str.ofString "_wall") 193, val := PySem.Value.ref 21 }, { hash := PySem.PyData.keyHash P (PySem.Str.ofString "SwitchError"), key := PySem.Value.str (PySem.Str.ofString "SwitchError") 224, val := PySem.Value.ref 38 }, { hash := PySem.PyData.keyHash P (PySem.Str.ofString "SettingError"), key := PySem.Value.str (PySem.Str.ofString "SettingError") 251, val := PySem.Value.ref 59 }] 12 }) ::
  (nat_lit 12, { cls := PySem.Value.none, data := PySem.Data.fields #[PySem.Value.int 1 0, PySem.Value.int 0 0, PySem.Value.ref 20, PySem.Value.int 5 0, PySem.Value.int 0 0, PySem.Value.ref 27, PySem.Value.int 10 0, PySem.Value.int 0 0, PySem.Value.ref 47] }) :: []
noncomputable def Z2 (w : World) (os : OsState) : SharedT := ⟨bt 9 (mg 62 0 (V2 w.params) (hX w.params) (hK w.params)), 62, {}, #[], {}, 252, os⟩
noncomputable def V3 : Params → Frag := fun P =>
  (nat_lit 3, { cls := PySem.Value.type "dict", data := PySem.Data.dict #[{ hash := PySem.PyData.keyHash P (PySem.Str.ofString "__name__"), key := PySem.Value.str (PySem.Str.ofString "__name__") 165, val := PySem.Value.str (PySem.Str.ofString "switchloom.queues") 252 }, { hash := PySem.PyData.keyHash P (PySem.Str.ofString "__doc__"), key := PySem.Value.str (PySem.Str.ofString "__doc__") 166, val := PySem.Value.none }, { hash := PySem.PyData.keyHash P (PySem.Str.ofString "__package__"), key := PySem.Value.str (PySem.Str.ofString "__package__") 167, val := PySem.Value.none }, { hash := PySem.PyData.keyHash P (PySem.Str.ofString "__loader__"), key := PySem.Value.str (PySem.Str.ofString "__loader__") 168, val := PySem.Value.builtin "__main__.__loader__#opaque" }, { hash := PySem.PyData.keyHash P (PySem.Str.ofString "__spec__"), key := PySem.Value.str (PySem.Str.ofString "__spec__") 169, val := PySem.Value.none }, { hash := PySem.PyData.keyHash P (PySem.Str.ofString "__annotations__"), key := PySem.Value.str (PySem.Str.ofString "__annotations__") 170, val := PySem.Value.ref 6 }, { hash := PySem.PyData.keyHash P (PySem.Str.ofString "__builtins__"), key := PySem.Value.str (PySem.Str.ofString "__builtins__") 171, val := PySem.Value.ref 4 }, { hash := PySem.PyData.keyHash P (PySem.Str.ofString "__file__"), key := PySem.Value.str (PySem.Str.ofString "__file__") 173, val := PySem.Value.str (PySem.Str.ofString "/claim/cut.py") 172 }, { hash := PySem.PyData.keyHash P (PySem.Str.ofString "__cached__"), key := PySem.Value.str (PySem.Str.ofString "__cached__") 174, val := PySem.Value.none }, { hash := PySem.PyData.keyHash P (PySem.Str.ofString "_wall"), key := PySem.Value.str (PySem.Str.ofString "_wall") 193, val := PySem.Value.ref 21 }, { hash := PySem.PyData.keyHash P (PySem.Str.ofString "SwitchError"), key := PySem.Value.str (PySem.Str.ofString "SwitchError") 224, val := PySem.Value.ref 38 }, { hash := PySem.PyData.keyHash P (PySem.Str.ofString "SettingError"), key := PySem.Value.str (PySem.Str.ofString "SettingError") 251, val := PySem.Value.ref 59 }, { hash := PySem.PyData.keyHash P (PySem.Str.ofString "QueueRow"), key := PySem.Value.str (PySem.Str.ofString "QueueRow") 318, val := PySem.Value.ref 106 }] 13 }) ::
  (nat_lit 12, { cls := PySem.Value.none, data := PySem.Data.fields #[PySem.Value.int 1 0, PySem.Value.int 0 0, PySem.Value.ref 20, PySem.Value.int 5 0, PySem.Value.int 0 0, PySem.Value.ref 27, PySem.Value.int 10 0, PySem.Value.int 0 0, PySem.Value.ref 47, PySem.Value.int 16 0, PySem.Value.int 0 0, PySem.Value.ref 67] }) :: []
noncomputable def Z3 (w : World) (os : OsState) : SharedT := ⟨bt 9 (mg 111 0 (V3 w.params) (hX w.params) (hK w.params)), 111, {}, #[], {}, 319, os⟩
noncomputable def V4 : Params → Frag := fun P =>
  (nat_lit 3, { cls := PySem.Value.type "dict", data := PySem.Data.dict #[{ hash := PySem.PyData.keyHash P (PySem.Str.ofString "__name__"), key := PySem.Value.str (PySem.Str.ofString "__name__") 165, val := PySem.Value.str (PySem.Str.ofString "switchloom.fair_queues") 328 }, { hash := PySem.PyData.keyHash P (PySem.Str.ofString "__doc__"), key := PySem.Value.str (PySem.Str.ofString "__doc__") 166, val := PySem.Value.none }, { hash := PySem.PyData.keyHash P (PySem.Str.ofString "__package__"), key := PySem.Value.str (PySem.Str.ofString "__package__") 167, val := PySem.Value.none }, { hash := PySem.PyData.keyHash P (PySem.Str.ofString "__loader__"), key := PySem.Value.str (PySem.Str.ofString "__loader__") 168, val := PySem.Value.builtin "__main__.__loader__#opaque" }, { hash := PySem.PyData.keyHash P (PySem.Str.ofString "__spec__"), key := PySem.Value.str (PySem.Str.ofString "__spec__") 169, val := PySem.Value.none }, { hash := PySem.PyData.keyHash P (PySem.Str.ofString "__annotations__"), key := PySem.Value.str (PySem.Str.ofString "__annotations__") 170, val := PySem.Value.ref 6 }, { hash := PySem.PyData.keyHash P (PySem.Str.ofString "__builtins__"), key := PySem.Value.str (PySem.Str.ofString "__builtins__") 171, val := PySem.Value.ref 4 }, { hash := PySem.PyData.keyHash P (PySem.Str.ofString "__file__"), key := PySem.Value.str (PySem.Str.ofString "__file__") 173, val := PySem.Value.str (PySem.Str.ofString "/claim/cut.py") 172 }, { hash := PySem.PyData.keyHash P (PySem.Str.ofString "__cached__"), key := PySem.Value.str (PySem.Str.ofString "__cached__") 174, val := PySem.Value.none }, { hash := PySem.PyData.keyHash P (PySem.Str.ofString "_wall"), key := PySem.Value.str (PySem.Str.ofString "_wall") 193, val := PySem.Value.ref 21 }, { hash := PySem.PyData.keyHash P (PySem.Str.ofString "SwitchError"), key := PySem.Value.str (PySem.Str.ofString "SwitchError") 224, val := PySem.Value.ref 38 }, { hash := PySem.PyData.keyHash P (PySem.Str.ofString "SettingError"), key := PySem.Value.str (PySem.Str.ofString "SettingError") 251, val := PySem.Value.ref 59 }, { hash := PySem.PyData.keyHash P (PySem.Str.ofString "QueueRow"), key := PySem.Value.str (PySem.Str.ofString "QueueRow") 318, val := PySem.Value.ref 106 }, { hash := PySem.PyData.keyHash P (PySem.Str.ofString "may_go"), key := PySem.Value.str (PySem.Str.ofString "may_go") 327, val := PySem.Value.ref 117 }, { hash := PySem.PyData.keyHash P (PySem.Str.ofString "SHARES"), key := PySem.Value.str (PySem.Str.ofString "SHARES") 331, val := PySem.Value.int 10000 330 }, { hash := PySem.PyData.keyHash P (PySem.Str.ofString "least_multiple"), key := PySem.Value.str (PySem.Str.ofString "least_multiple") 342, val := PySem.Value.ref 124 }, { hash := PySem.PyData.keyHash P (PySem.Str.ofString "WeightedFair"), key := PySem.Value.str (PySem.Str.ofString "WeightedFair") 405, val := PySem.Value.ref 165 }] 17 }) ::
  (nat_lit 12, { cls := PySem.Value.none, data := PySem.Data.fields #[PySem.Value.int 1 0, PySem.Value.int 0 0, PySem.Value.ref 20, PySem.Value.int 5 0, PySem.Value.int 0 0, PySem.Value.ref 27, PySem.Value.int 10 0, PySem.Value.int 0 0, PySem.Value.ref 47, PySem.Value.int 16 0, PySem.Value.int 0 0, PySem.Value.ref 67, PySem.Value.int 45 0, PySem.Value.int 0 0, PySem.Value.ref 116, PySem.Value.int 49 0, PySem.Value.int 0 0, PySem.Value.ref 123, PySem.Value.int 57 0, PySem.Value.int 0 0, PySem.Value.ref 130] }) :: []
noncomputable def Z4 (w : World) (os : OsState) : SharedT := ⟨bt 9 (mg 170 0 (V4 w.params) (hX w.params) (hK w.params)), 170, {}, #[], {}, 406, os⟩
noncomputable def V5 : Params → Frag := fun P =>
  (nat_lit 3, { cls := PySem.Value.type "dict", data := PySem.Data.dict #[{ hash := PySem.PyData.keyHash P (PySem.Str.ofString "__name__"), key := PySem.Value.str (PySem.Str.ofString "__name__") 165, val := PySem.Value.str (PySem.Str.ofString "switchloom.fair_queues") 328 }, { hash := PySem.PyData.keyHash P (PySem.Str.ofString "__doc__"), key := PySem.Value.str (PySem.Str.ofString "__doc__") 166, val := PySem.Value.none }, { hash := PySem.PyData.keyHash P (PySem.Str.ofString "__package__"), key := PySem.Value.str (PySem.Str.ofString "__package__") 167, val := PySem.Value.none }, { hash := PySem.PyData.keyHash P (PySem.Str.ofString "__loader__"), key := PySem.Value.str (PySem.Str.ofString "__loader__") 168, val := PySem.Value.builtin "__main__.__loader__#opaque" }, { hash := PySem.PyData.keyHash P (PySem.Str.ofString "__spec__"), key := PySem.Value.str (PySem.Str.ofString "__spec__") 169, val := PySem.Value.none }, { hash := PySem.PyData.keyHash P (PySem.Str.ofString "__annotations__"), key := PySem.Value.str (PySem.Str.ofString "__annotations__") 170, val := PySem.Value.ref 6 }, { hash := PySem.PyData.keyHash P (PySem.Str.ofString "__builtins__"), key := PySem.Value.str (PySem.Str.ofString "__builtins__") 171, val := PySem.Value.ref 4 }, { hash := PySem.PyData.keyHash P (PySem.Str.ofString "__file__"), key := PySem.Value.str (PySem.Str.ofString "__file__") 173, val := PySem.Value.str (PySem.Str.ofString "/claim/cut.py") 172 }, { hash := PySem.PyData.keyHash P (PySem.Str.ofString "__cached__"), key := PySem.Value.str (PySem.Str.ofString "__cached__") 174, val := PySem.Value.none }, { hash := PySem.PyData.keyHash P (PySem.Str.ofString "_wall"), key := PySem.Value.str (PySem.Str.ofString "_wall") 193, val := PySem.Value.ref 21 }, { hash := PySem.PyData.keyHash P (PySem.Str.ofString "SwitchError"), key := PySem.Value.str (PySem.Str.ofString "SwitchError") 224, val := PySem.Value.ref 38 }, { hash := PySem.PyData.keyHash P (PySem.Str.ofString "SettingError"), key := PySem.Value.str (PySem.Str.ofString "SettingError") 251, val := PySem.Value.ref 59 }, { hash := PySem.PyData.keyHash P (PySem.Str.ofString "QueueRow"), key := PySem.Value.str (PySem.Str.ofString "QueueRow") 318, val := PySem.Value.ref 106 }, { hash := PySem.PyData.keyHash P (PySem.Str.ofString "may_go"), key := PySem.Value.str (PySem.Str.ofString "may_go") 327, val := PySem.Value.ref 117 }, { hash := PySem.PyData.keyHash P (PySem.Str.ofString "SHARES"), key := PySem.Value.str (PySem.Str.ofString "SHARES") 331, val := PySem.Value.int 10000 330 }, { hash := PySem.PyData.keyHash P (PySem.Str.ofString "least_multiple"), key := PySem.Value.str (PySem.Str.ofString "least_multiple") 342, val := PySem.Value.ref 124 }, { hash := PySem.PyData.keyHash P (PySem.Str.ofString "WeightedFair"), key := PySem.Value.str (PySem.Str.ofString "WeightedFair") 405, val := PySem.Value.ref 165 }, { hash := PySem.PyData.keyHash P (PySem.Str.ofString "AverageLevel"), key := PySem.Value.str (PySem.Str.ofString "AverageLevel") 443, val := PySem.Value.ref 193 }] 18 }) ::
  (nat_lit 12, { cls := PySem.Value.none, data := PySem.Data.fields #[PySem.Value.int 1 0, PySem.Value.int 0 0, PySem.Value.ref 20, PySem.Value.int 5 0, PySem.Value.int 0 0, PySem.Value.ref 27, PySem.Value.int 10 0, PySem.Value.int 0 0, PySem.Value.ref 47, PySem.Value.int 16 0, PySem.Value.int 0 0, PySem.Value.ref 67, PySem.Value.int 45 0, PySem.Value.int 0 0, PySem.Value.ref 116, PySem.Value.int 49 0, PySem.Value.int 0 0, PySem.Value.ref 123, PySem.Value.int 57 0, PySem.Value.int 0 0, PySem.Value.ref 130, PySem.Value.int 95 0, PySem.Value.int 0 0, PySem.Value.ref 175] }) :: []
noncomputable def Z5 (w : World) (os : OsState) : SharedT := ⟨bt 9 (mg 198 0 (V5 w.params) (hX w.params) (hK w.params)), 198, {}, #[], {}, 444, os⟩
noncomputable def V6 : Params → Frag := fun P =>
  (nat_lit 3, { cls := PySem.Value.type "dict", data := PySem.Data.dict #[{ hash := PySem.PyData.keyHash P (PySem.Str.ofString "__name__"), key := PySem.Value.str (PySem.Str.ofString "__name__") 165, val := PySem.Value.str (PySem.Str.ofString "switchloom.fair_queues") 328 }, { hash := PySem.PyData.keyHash P (PySem.Str.ofString "__doc__"), key := PySem.Value.str (PySem.Str.ofString "__doc__") 166, val := PySem.Value.none }, { hash := PySem.PyData.keyHash P (PySem.Str.ofString "__package__"), key := PySem.Value.str (PySem.Str.ofString "__package__") 167, val := PySem.Value.none }, { hash := PySem.PyData.keyHash P (PySem.Str.ofString "__loader__"), key := PySem.Value.str (PySem.Str.ofString "__loader__") 168, val := PySem.Value.builtin "__main__.__loader__#opaque" }, { hash := PySem.PyData.keyHash P (PySem.Str.ofString "__spec__"), key := PySem.Value.str (PySem.Str.ofString "__spec__") 169, val := PySem.Value.none }, { hash := PySem.PyData.keyHash P (PySem.Str.ofString "__annotations__"), key := PySem.Value.str (PySem.Str.ofString "__annotations__") 170, val := PySem.Value.ref 6 }, { hash := PySem.PyData.keyHash P (PySem.Str.ofString "__builtins__"), key := PySem.Value.str (PySem.Str.ofString "__builtins__") 171, val := PySem.Value.ref 4 }, { hash := PySem.PyData.keyHash P (PySem.Str.ofString "__file__"), key := PySem.Value.str (PySem.Str.ofString "__file__") 173, val := PySem.Value.str (PySem.Str.ofString "/claim/cut.py") 172 }, { hash := PySem.PyData.keyHash P (PySem.Str.ofString "__cached__"), key := PySem.Value.str (PySem.Str.ofString "__cached__") 174, val := PySem.Value.none }, { hash := PySem.PyData.keyHash P (PySem.Str.ofString "_wall"), key := PySem.Value.str (PySem.Str.ofString "_wall") 193, val := PySem.Value.ref 21 }, { hash := PySem.PyData.keyHash P (PySem.Str.ofString "SwitchError"), key := PySem.Value.str (PySem.Str.ofString "SwitchError") 224, val := PySem.Value.ref 38 }, { hash := PySem.PyData.keyHash P (PySem.Str.ofString "SettingError"), key := PySem.Value.str (PySem.Str.ofString "SettingError") 251, val := PySem.Value.ref 59 }, { hash := PySem.PyData.keyHash P (PySem.Str.ofString "QueueRow"), key := PySem.Value.str (PySem.Str.ofString "QueueRow") 318, val := PySem.Value.ref 106 }, { hash := PySem.PyData.keyHash P (PySem.Str.ofString "may_go"), key := PySem.Value.str (PySem.Str.ofString "may_go") 327, val := PySem.Value.ref 117 }, { hash := PySem.PyData.keyHash P (PySem.Str.ofString "SHARES"), key := PySem.Value.str (PySem.Str.ofString "SHARES") 331, val := PySem.Value.int 10000 330 }, { hash := PySem.PyData.keyHash P (PySem.Str.ofString "least_multiple"), key := PySem.Value.str (PySem.Str.ofString "least_multiple") 342, val := PySem.Value.ref 124 }, { hash := PySem.PyData.keyHash P (PySem.Str.ofString "WeightedFair"), key := PySem.Value.str (PySem.Str.ofString "WeightedFair") 405, val := PySem.Value.ref 165 }, { hash := PySem.PyData.keyHash P (PySem.Str.ofString "AverageLevel"), key := PySem.Value.str (PySem.Str.ofString "AverageLevel") 443, val := PySem.Value.ref 193 }, { hash := PySem.PyData.keyHash P (PySem.Str.ofString "DropCurve"), key := PySem.Value.str (PySem.Str.ofString "DropCurve") 493, val := PySem.Value.ref 228 }] 19 }) ::
  (nat_lit 12, { cls := PySem.Value.none, data := PySem.Data.fields #[PySem.Value.int 1 0, PySem.Value.int 0 0, PySem.Value.ref 20, PySem.Value.int 5 0, PySem.Value.int 0 0, PySem.Value.ref 27, PySem.Value.int 10 0, PySem.Value.int 0 0, PySem.Value.ref 47, PySem.Value.int 16 0, PySem.Value.int 0 0, PySem.Value.ref 67, PySem.Value.int 45 0, PySem.Value.int 0 0, PySem.Value.ref 116, PySem.Value.int 49 0, PySem.Value.int 0 0, PySem.Value.ref 123, PySem.Value.int 57 0, PySem.Value.int 0 0, PySem.Value.ref 130, PySem.Value.int 95 0, PySem.Value.int 0 0, PySem.Value.ref 175, PySem.Value.int 104 0, PySem.Value.int 0 0, PySem.Value.ref 203] }) :: []
noncomputable def Z6 (w : World) (os : OsState) : SharedT := ⟨bt 9 (mg 233 0 (V6 w.params) (hX w.params) (hK w.params)), 233, {}, #[], {}, 494, os⟩
noncomputable def V7 : Params → Frag := fun P =>
  (nat_lit 3, { cls := PySem.Value.type "dict", data := PySem.Data.dict #[{ hash := PySem.PyData.keyHash P (PySem.Str.ofString "__name__"), key := PySem.Value.str (PySem.Str.ofString "__name__") 165, val := PySem.Value.str (PySem.Str.ofString "law_pc0369_01") 494 }, { hash := PySem.PyData.keyHash P (PySem.Str.ofString "__doc__"), key := PySem.Value.str (PySem.Str.ofString "__doc__") 166, val := PySem.Value.none }, { hash := PySem.PyData.keyHash P (PySem.Str.ofString "__package__"), key := PySem.Value.str (PySem.Str.ofString "__package__") 167, val := PySem.Value.none }, { hash := PySem.PyData.keyHash P (PySem.Str.ofString "__loader__"), key := PySem.Value.str (PySem.Str.ofString "__loader__") 168, val := PySem.Value.builtin "__main__.__loader__#opaque" }, { hash := PySem.PyData.keyHash P (PySem.Str.ofString "__spec__"), key := PySem.Value.str (PySem.Str.ofString "__spec__") 169, val := PySem.Value.none }, { hash := PySem.PyData.keyHash P (PySem.Str.ofString "__annotations__"), key := PySem.Value.str (PySem.Str.ofString "__annotations__") 170, val := PySem.Value.ref 6 }, { hash := PySem.PyData.keyHash P (PySem.Str.ofString "__builtins__"), key := PySem.Value.str (PySem.Str.ofString "__builtins__") 171, val := PySem.Value.ref 4 }, { hash := PySem.PyData.keyHash P (PySem.Str.ofString "__file__"), key := PySem.Value.str (PySem.Str.ofString "__file__") 173, val := PySem.Value.str (PySem.Str.ofString "/claim/cut.py") 172 }, { hash := PySem.PyData.keyHash P (PySem.Str.ofString "__cached__"), key := PySem.Value.str (PySem.Str.ofString "__cached__") 174, val := PySem.Value.none }, { hash := PySem.PyData.keyHash P (PySem.Str.ofString "_wall"), key := PySem.Value.str (PySem.Str.ofString "_wall") 193, val := PySem.Value.ref 21 }, { hash := PySem.PyData.keyHash P (PySem.Str.ofString "SwitchError"), key := PySem.Value.str (PySem.Str.ofString "SwitchError") 224, val := PySem.Value.ref 38 }, { hash := PySem.PyData.keyHash P (PySem.Str.ofString "SettingError"), key := PySem.Value.str (PySem.Str.ofString "SettingError") 251, val := PySem.Value.ref 59 }, { hash := PySem.PyData.keyHash P (PySem.Str.ofString "QueueRow"), key := PySem.Value.str (PySem.Str.ofString "QueueRow") 318, val := PySem.Value.ref 106 }, { hash := PySem.PyData.keyHash P (PySem.Str.ofString "may_go"), key := PySem.Value.str (PySem.Str.ofString "may_go") 327, val := PySem.Value.ref 117 }, { hash := PySem.PyData.keyHash P (PySem.Str.ofString "SHARES"), key := PySem.Value.str (PySem.Str.ofString "SHARES") 331, val := PySem.Value.int 10000 330 }, { hash := PySem.PyData.keyHash P (PySem.Str.ofString "least_multiple"), key := PySem.Value.str (PySem.Str.ofString "least_multiple") 342, val := PySem.Value.ref 124 }, { hash := PySem.PyData.keyHash P (PySem.Str.ofString "WeightedFair"), key := PySem.Value.str (PySem.Str.ofString "WeightedFair") 405, val := PySem.Value.ref 165 }, { hash := PySem.PyData.keyHash P (PySem.Str.ofString "AverageLevel"), key := PySem.Value.str (PySem.Str.ofString "AverageLevel") 443, val := PySem.Value.ref 193 }, { hash := PySem.PyData.keyHash P (PySem.Str.ofString "DropCurve"), key := PySem.Value.str (PySem.Str.ofString "DropCurve") 493, val := PySem.Value.ref 228 }, { hash := PySem.PyData.keyHash P (PySem.Str.ofString "_law_source"), key := PySem.Value.str (PySem.Str.ofString "_law_source") 503, val := PySem.Value.ref 239 }, { hash := PySem.PyData.keyHash P (PySem.Str.ofString "_law_next"), key := PySem.Value.str (PySem.Str.ofString "_law_next") 512, val := PySem.Value.ref 246 }, { hash := PySem.PyData.keyHash P (PySem.Str.ofString "_law_pick"), key := PySem.Value.str (PySem.Str.ofString "_law_pick") 520, val := PySem.Value.ref 253 }, { hash := PySem.PyData.keyHash P (PySem.Str.ofString "_law_less"), key := PySem.Value.str (PySem.Str.ofString "_law_less") 528, val := PySem.Value.ref 260 }, { hash := PySem.PyData.keyHash P (PySem.Str.ofString "_law_greater_of"), key := PySem.Value.str (PySem.Str.ofString "_law_greater_of") 536, val := PySem.Value.ref 267 }, { hash := PySem.PyData.keyHash P (PySem.Str.ofString "_law_put"), key := PySem.Value.str (PySem.Str.ofString "_law_put") 542, val := PySem.Value.ref 272 }] 25 }) ::
  (nat_lit 12, { cls := PySem.Value.none, data := PySem.Data.fields #[PySem.Value.int 1 0, PySem.Value.int 0 0, PySem.Value.ref 20, PySem.Value.int 5 0, PySem.Value.int 0 0, PySem.Value.ref 27, PySem.Value.int 10 0, PySem.Value.int 0 0, PySem.Value.ref 47, PySem.Value.int 16 0, PySem.Value.int 0 0, PySem.Value.ref 67, PySem.Value.int 45 0, PySem.Value.int 0 0, PySem.Value.ref 116, PySem.Value.int 49 0, PySem.Value.int 0 0, PySem.Value.ref 123, PySem.Value.int 57 0, PySem.Value.int 0 0, PySem.Value.ref 130, PySem.Value.int 95 0, PySem.Value.int 0 0, PySem.Value.ref 175, PySem.Value.int 104 0, PySem.Value.int 0 0, PySem.Value.ref 203, PySem.Value.int 123 0, PySem.Value.int 0 0, PySem.Value.ref 238, PySem.Value.int 126 0, PySem.Value.int 0 0, PySem.Value.ref 245, PySem.Value.int 132 0, PySem.Value.int 0 0, PySem.Value.ref 252, PySem.Value.int 134 0, PySem.Value.int 0 0, PySem.Value.ref 259, PySem.Value.int 136 0, PySem.Value.int 0 0, PySem.Value.ref 266, PySem.Value.int 138 0, PySem.Value.int 0 0, PySem.Value.ref 271] }) :: []
noncomputable def Z7 (w : World) (os : OsState) : SharedT := ⟨bt 9 (mg 273 0 (V7 w.params) (hX w.params) (hK w.params)), 273, {}, #[], {}, 543, os⟩
noncomputable def V8 : Params → Frag := fun P => []
noncomputable def Z8 (w : World) (os : OsState) : SharedT := ⟨bt 9 (mg 307 0 (V8 w.params) (hX w.params) (hK w.params)), 307, {}, #[], {}, 588, os⟩
@[reducible] noncomputable def nB : List Stmt := behindTheImports PySem.Challenge.pw_pc0369_01
@[reducible] noncomputable def nE : Env := { scope := PySem.Challenge.pw_pc0369_01.main.scope, locals := mainNs, globals := mainNs, cells := [], code := PySem.Value.ref 13, frame := some 14 }
@[reducible] noncomputable def nC : Code := .body nB nE
@[reducible] noncomputable def nP : Pos := { line := 0, col := 0, endLine := 0, endCol := 0 }
@[reducible] noncomputable def q0 : Pos := { line := 0, col := 0, endLine := 0, endCol := 0 }
@[reducible] noncomputable def q1 : Pos := { line := 5, col := 0, endLine := 9, endCol := 30 }
@[reducible] noncomputable def q2 : Pos := { line := 10, col := 0, endLine := 14, endCol := 22 }
@[reducible] noncomputable def q3 : Pos := { line := 16, col := 0, endLine := 44, endCol := 20 }
@[reducible] noncomputable def q4 : Pos := { line := 57, col := 0, endLine := 94, endCol := 58 }
@[reducible] noncomputable def q5 : Pos := { line := 95, col := 0, endLine := 103, endCol := 39 }
@[reducible] noncomputable def q6 : Pos := { line := 104, col := 0, endLine := 121, endCol := 39 }
@[reducible] noncomputable def q7 : Pos := { line := 138, col := 0, endLine := 143, endCol := 56 }
@[reducible] noncomputable def q8 : Pos := { line := 211, col := 0, endLine := 227, endCol := 96 }
noncomputable abbrev nA : Option Value := Option.some (PySem.Value.ref 6)
@[reducible] noncomputable def R0 : List Stmt := nB
@[reducible] noncomputable def R1 : List Stmt := R0.drop 3
@[reducible] noncomputable def R2 : List Stmt := R1.drop 1
@[reducible] noncomputable def R3 : List Stmt := R2.drop 2
@[reducible] noncomputable def R4 : List Stmt := R3.drop 5
@[reducible] noncomputable def R5 : List Stmt := R4.drop 1
@[reducible] noncomputable def R6 : List Stmt := R5.drop 1
@[reducible] noncomputable def R7 : List Stmt := R6.drop 7
@[reducible] noncomputable def R8 : List Stmt := R7.drop 6
theorem zpre (w : World) (os : OsState) : topGo treeTable PySem.Challenge.pw_pc0369_01 w 11 nA 12 ⟨boot_heap w.params, Array.mk [], boot_drawn, boot_toks, os⟩ (topStub PySem.Challenge.pw_pc0369_01) = some ((Z0 w os).abs, ⟨denote treeTable nC, nC, q0, [topFrame nP]⟩) := by kernel_rfl
theorem zblock (w : World) (os : OsState) : segRunT treeTable PySem.Challenge.pw_pc0369_01 w 11 nA 1 1 (Z0 w os) (blockOf nB nE nC q0 [topFrame nP]) = some (.next, Z0 w os, nC, q0) := by kernel_rfl
theorem zq {p : Program} {w : World} {n k : Nat} {a : Option Value} {s : SharedT} {l : List Stmt} {e : Env} {c : Code} {q : Pos} {B : List Frame} {r : Option (Flow × SharedT × Code × Pos)}
    (h : PySem.W.Fast.tw10110043849684766642 PySem.W.Fast.tw14364793385576792824 p w n a 1 k s ⟨(PySem.W.Fast.tw12563942051412417395 l e).wrap doneF deadEnd id id, c, q, B⟩ = r) : segRunT treeTable p w n a 1 k s (piecesOf l e c q B) = r := by
  rw [← PySem.W.Fast.te10110043849684766642, ← PySem.W.Fast.te14364793385576792824, ← PySem.W.Fast.te12563942051412417395] at h
  exact h
theorem zp {p : Program} {w : World} {n N k : Nat} {a : Option Value} {s s' : SharedT} {r : Shared} {l : List Stmt} {e : Env} {c : Code} {q q' q₀ : Pos} (g : Nat) (h : segRunT treeTable p w n a 1 k s (piecesOf (l.take g) e c q [topFrame q₀]) = some (.next, s', c, q'))
    (t : topRun treeTable p w n a N s'.abs (restOf (l.drop g) e c q' [topFrame q₀]) = some r) : topRun treeTable p w n a (k + N) s.abs (restOf l e c q [topFrame q₀]) = some r := by
  have x := piece_app (segRun_of h) t
  rwa [List.take_append_drop] at x
theorem zs0 (w : World) (os : OsState) : segRunT treeTable PySem.Challenge.pw_pc0369_01 w 11 nA 1 267 (Z0 w os) (piecesOf (R0.take 3) nE nC q0 [topFrame nP]) = some (.next, Z1 w os, nC, q1) := by
  apply zq
  kernel_rfl
theorem zs1 (w : World) (os : OsState) : segRunT treeTable PySem.Challenge.pw_pc0369_01 w 11 nA 1 249 (Z1 w os) (piecesOf (R1.take 1) nE nC q1 [topFrame nP]) = some (.next, Z2 w os, nC, q2) := by
  apply zq
  kernel_rfl
theorem zs2 (w : World) (os : OsState) : segRunT treeTable PySem.Challenge.pw_pc0369_01 w 11 nA 1 364 (Z2 w os) (piecesOf (R2.take 2) nE nC q2 [topFrame nP]) = some (.next, Z3 w os, nC, q3) := by
  apply zq
  kernel_rfl
theorem zs3 (w : World) (os : OsState) : segRunT treeTable PySem.Challenge.pw_pc0369_01 w 11 nA 1 431 (Z3 w os) (piecesOf (R3.take 5) nE nC q3 [topFrame nP]) = some (.next, Z4 w os, nC, q4) := by
  apply zq
  kernel_rfl
theorem zs4 (w : World) (os : OsState) : segRunT treeTable PySem.Challenge.pw_pc0369_01 w 11 nA 1 256 (Z4 w os) (piecesOf (R4.take 1) nE nC q4 [topFrame nP]) = some (.next, Z5 w os, nC, q5) := by
  apply zq
  kernel_rfl
theorem zs5 (w : World) (os : OsState) : segRunT treeTable PySem.Challenge.pw_pc0369_01 w 11 nA 1 292 (Z5 w os) (piecesOf (R5.take 1) nE nC q5 [topFrame nP]) = some (.next, Z6 w os, nC, q6) := by
  apply zq
  kernel_rfl
theorem zs6 (w : World) (os : OsState) : segRunT treeTable PySem.Challenge.pw_pc0369_01 w 11 nA 1 187 (Z6 w os) (piecesOf (R6.take 7) nE nC q6 [topFrame nP]) = some (.next, Z7 w os, nC, q7) := by
  apply zq
  kernel_rfl
theorem zs7 (w : World) (os : OsState) : segRunT treeTable PySem.Challenge.pw_pc0369_01 w 11 nA 1 170 (Z7 w os) (piecesOf (R7.take 6) nE nC q7 [topFrame nP]) = some (.next, Z8 w os, nC, q8) := by
  apply zq
  kernel_rfl
noncomputable def hF (P : Params) : Heap := ⟨⟨mg 307 0 [] (hX P) (hK P)⟩, {}⟩
theorem zfin (w : World) (os : OsState) : topRun treeTable PySem.Challenge.pw_pc0369_01 w 11 nA 2 (Z8 w os).abs ⟨doneF .next, nC, q8, [topFrame nP]⟩ = some ⟨hF w.params, #[], {}, 588, os⟩ := by kernel_rfl
theorem zend {p : Program} {w : World} {n N : Nat} {a : Option Value} {s r : Shared} {e : Env} {c : Code} {q q₀ : Pos} (l : List Stmt) (h : l = []) (t : topRun treeTable p w n a N s ⟨doneF .next, c, q, [topFrame q₀]⟩ = some r) : topRun treeTable p w n a N s (restOf l e c q [topFrame q₀]) = some r := by
  subst h
  exact piece_nil t
theorem znil : R8 = [] := by kernel_rfl
theorem zrun (w : World) (os : OsState) : topRun treeTable PySem.Challenge.pw_pc0369_01 w 11 nA (12 + (1 + (267 + (249 + (364 + (431 + (256 + (292 + (187 + (170 + 2)))))))))) ⟨boot_heap w.params, Array.mk [], boot_drawn, boot_toks, os⟩ (topStub PySem.Challenge.pw_pc0369_01) = some ⟨hF w.params, #[], {}, 588, os⟩ :=
  go_top (zpre w os) (piece_block (segRun_of (zblock w os)) (zp 3 (zs0 w os) (zp 1 (zs1 w os) (zp 2 (zs2 w os) (zp 5 (zs3 w os) (zp 1 (zs4 w os) (zp 1 (zs5 w os) (zp 7 (zs6 w os) (zp 6 (zs7 w os) (zend _ znil (zfin w os)))))))))))
theorem zopen : ∀ w : World, (fencedOpening treeTable PySem.Challenge.pw_pc0369_01 w 4542).map (fun s => (s.heap, s.gens, s.drawn, s.toks)) = some (boot_heap w.params, Array.mk [], boot_drawn, boot_toks) := boot_open rfl (by decide) fun _ => rfl
theorem zsize : ∀ w : World, ((boot_heap w.params).isNs mainGlobals && (Array.mk [] : Array GenState).size == 0, (boot_heap w.params).objs.size, (boot_heap w.params).nsMap mainGlobals "__annotations__") = (true, 11, nA) := by
  intro w
  kernel_rfl
theorem zlook1 (w : World) (os : OsState) : (staticsOk (importedModules PySem.Challenge.pw_pc0369_01.main.body) (boot_heap w.params) (hF w.params) && namesBound PySem.Challenge.pw_pc0369_01 (hF w.params) && gensDone ⟨hF w.params, #[], {}, 588, os⟩ && laidKept (boot_heap w.params) (hF w.params)) = true := by kernel_rfl
theorem zlook2 (w : World) (os : OsState) : openSeen hV [Str.ofString "SettingError"] (importedModules PySem.Challenge.pw_pc0369_01.main.body) (fun s => xlAt hV [] s && recOk (RowW.records PySem.Challenge.rw_pc0369_01.row.toRowW) s) true ⟨hF w.params, #[], {}, 588, os⟩ = openGood hV [Str.ofString "SettingError"] := by kernel_rfl
theorem zlook3 (w : World) (os : OsState) : HK.obs ⟨hF w.params, #[], {}, 588, os⟩ = HK.val w := by kernel_rfl
theorem left0 : LeftO PySem.Challenge.pw_pc0369_01 hV [Str.ofString "SettingError"] (fun s => xlAt hV [] s && recOk (RowW.records PySem.Challenge.rw_pc0369_01.row.toRowW) s) HK.obs HK.val 4542 :=
  LeftO.of_pieces (H₁ := hF) zopen zsize zrun (by decide) fun w => funext fun os => looks_pair (zlook1 w os) (looks_pair (zlook2 w os) (zlook3 w os))
theorem left1 : LeftO PySem.Challenge.rw_pc0369_01.row.prog hV [Str.ofString "SettingError"] (fun s => xlAt hV [] s && recOk (RowW.records PySem.Challenge.rw_pc0369_01.row.toRowW) s) HK.obs HK.val 4542 := left0
theorem y1 : namesResolve PySem.Challenge.pw_pc0369_01 = true := by kernel_rfl
theorem y2 : noRoadLSs { strict := !(importedModules PySem.Challenge.pw_pc0369_01.main.body).all cThrough.contains, foot := none, bare := (["vars", "dir", "locals"] : List Str).filter (readsOut PySem.Challenge.pw_pc0369_01 PySem.Challenge.pw_pc0369_01.main.body) } PySem.Challenge.pw_pc0369_01.main.body = true := by kernel_rfl
theorem y3 : (namesMeet PySem.Challenge.pw_pc0369_01 PySem.Challenge.pw_pc0369_01.main.body fun _ n => attrL n) = true := by kernel_rfl
theorem y4 : (PySem.Challenge.pw_pc0369_01.boundNames.all (fun n => !worldNames.contains n)) = true := by kernel_rfl
theorem y5 : looksOpen PySem.Challenge.pw_pc0369_01 = true := by
  unfold looksOpen
  rw [y1, y2, y3, y4]
  kernel_rfl
theorem y6 : PySem.Challenge.rw_pc0369_01.row.wellSaid = true := by
  unfold OpenRow.wellSaid OpenRow.partSaid
  rw [show looksOpen PySem.Challenge.rw_pc0369_01.row.prog = true from y5]
  kernel_rfl
theorem said1 : PySem.Challenge.rw_pc0369_01.wellSaid = true := by
  unfold OpenLaw.wellSaid
  rw [y6]
  kernel_rfl
def my (s : String) : Lean.MacroM (Lean.TSyntax `tactic) := `(tactic| k_extra $(Lean.Syntax.mkStrLit s))
local macro_rules | `(tactic| walk_at $s) => my ("my " ++ s.getString)
local macro_rules | `(tactic| k_all) => my "my k_all"
local macro_rules | `(tactic| k_mem) => my "my k_mem"
local macro_rules | `(tactic| k_room) => my "my k_room"
local macro_rules | `(tactic| k_units) => my "my k_units"
local macro_rules | `(tactic| k_ne) => my "my k_ne"
local macro_rules | `(tactic| omega) => my "my omega"
local macro_rules | `(tactic| mul_fits) => my "my mul_fits"
section Part0
theorem units_make (A : Around) (C : Addr) (vals : List Value) : (A.under (.builtin "type.__call__" ⟨.ref C :: vals, []⟩)).units = A.units + 1 := rfl
structure Base (s : Shared) : Prop where
theorem execs_tidy {M : Model} {A : Around} {st : Stmt} {rest : List Stmt} {env : Env} {Q : Flow → Shared → Prop} {E : Value → Shared → Prop} {s : Shared} {h : Heap} {tk : Nat} (_ : Base s)
    (key : ∀ tk9, wpAny M A (exec st env) (fun f s' => match f with | .next => wpAny M A (execs rest env) Q E s' | f => Q f s') E { s with heap := h, toks := tk9 }) :
    wpAny M A (execs (st :: rest) env) Q E { s with heap := h, toks := tk } := wpAny_execs_cons (key tk)
theorem fr_open {h₀ h : Heap} {L : Addr} {m : Str → Option Value} (F : Fr h₀ L h m) : ∃ m₁ : Str → Option Value, Fr h₀ L h m₁ ∧ ∀ (x : Str) (v : Value), m x = some v → m₁ x = some v := ⟨m, F, fun _ _ e => e⟩
theorem gl {P : Prop} (h : ∀ G : Prop, (P → G) → G) : P := h P id
theorem letMA {M : Model} {A : Around} {α : Type} {t : Sem α} {Q : α → Shared → Prop} {E : Value → Shared → Prop} {s : Shared} (h : let M9 := M; let A9 := A; wpAny M9 A9 t Q E s) : wpAny M A t Q E s := h
theorem room {x d k R : Nat} (e : x ≤ d + k) (h : d + k < R) : x < R := Nat.lt_of_le_of_lt e h
theorem oa1 {a k m : Nat} (h : a < OfNat.ofNat k) (d : k ≤ m) : a ≤ m := Nat.le_of_lt (Nat.lt_of_lt_of_le h d)
theorem oa2 {a k m : Nat} (h : a < OfNat.ofNat k) (d : k ≤ m) : a < m := Nat.lt_of_lt_of_le h d
theorem oa3 {a k m : Nat} (h : a ≤ OfNat.ofNat k) (d : k ≤ m) : a ≤ m := Nat.le_trans h d
theorem oa4 {a k m : Nat} (h : a ≤ OfNat.ofNat k) (d : k < m) : a < m := Nat.lt_of_le_of_lt h d
theorem ob1 {a k : Nat} {m : Int} (h : a < OfNat.ofNat k) (d : (k : Int) ≤ m) : (a : Int) ≤ m := Int.le_trans (Int.ofNat_le.mpr (Nat.le_of_lt h)) d
theorem ob2 {a k : Nat} {m : Int} (h : a < OfNat.ofNat k) (d : (k : Int) ≤ m) : (a : Int) < m := Int.lt_of_lt_of_le (Int.ofNat_lt.mpr h) d
theorem ob3 {a k : Nat} {m : Int} (h : a ≤ OfNat.ofNat k) (d : (k : Int) ≤ m) : (a : Int) ≤ m := Int.le_trans (Int.ofNat_le.mpr h) d
theorem ob4 {a k : Nat} {m : Int} (h : a ≤ OfNat.ofNat k) (d : (k : Int) < m) : (a : Int) < m := Int.lt_of_le_of_lt (Int.ofNat_le.mpr h) d
theorem oc1 {a m : Int} {k : Nat} (h : a < OfNat.ofNat k) (d : (k : Int) ≤ m) : a ≤ m := Int.le_trans (Int.le_of_lt h) d
theorem oc2 {a m : Int} {k : Nat} (h : a < OfNat.ofNat k) (d : (k : Int) ≤ m) : a < m := Int.lt_of_lt_of_le h d
theorem oc3 {a m : Int} {k : Nat} (h : a ≤ OfNat.ofNat k) (d : (k : Int) ≤ m) : a ≤ m := Int.le_trans h d
theorem oc4 {a m : Int} {k : Nat} (h : a ≤ OfNat.ofNat k) (d : (k : Int) < m) : a < m := Int.lt_of_le_of_lt h d
theorem od1 {a k r : Nat} (h : a + k < r) : a < r := Nat.lt_of_le_of_lt (Nat.le_add_right _ _) h
theorem od2 {a b : Nat} (h : a < b) (e : b = a) : False := Nat.ne_of_gt h e
theorem od3 {a b : Nat} (h : a < b) (e : a = b) : False := Nat.ne_of_lt h e
theorem oe1 {a : Nat} (d : a < 9900) : a < cLine := by rw [cLine_is]; exact d
theorem of1 {a b : Nat} {R : Prop} (h : a < b ∧ R) : b ≠ a := Nat.ne_of_gt h.1
theorem of2 {a b c : Nat} {R : Prop} (h : c < b ∧ a < b ∧ R) : b ≠ a := Nat.ne_of_gt h.2.1
theorem of3 {a b c d : Nat} {R : Prop} (h : c < b ∧ d < b ∧ a < b ∧ R) : b ≠ a := Nat.ne_of_gt h.2.2.1
theorem of4 {a b c d e : Nat} {R : Prop} (h : c < b ∧ d < b ∧ e < b ∧ a < b ∧ R) : b ≠ a := Nat.ne_of_gt h.2.2.2.1
theorem of5 {a b c d e f : Nat} {R : Prop} (h : c < b ∧ d < b ∧ e < b ∧ f < b ∧ a < b ∧ R) : b ≠ a := Nat.ne_of_gt h.2.2.2.2.1
theorem of6 {a b c d e f g : Nat} {R : Prop} (h : c < b ∧ d < b ∧ e < b ∧ f < b ∧ g < b ∧ a < b ∧ R) : b ≠ a := Nat.ne_of_gt h.2.2.2.2.2.1
theorem of7 {a b c d e f g i : Nat} {R : Prop} (h : c < b ∧ d < b ∧ e < b ∧ f < b ∧ g < b ∧ i < b ∧ a < b ∧ R) : b ≠ a := Nat.ne_of_gt h.2.2.2.2.2.2.1
theorem on1 {x : Int} {k m : Nat} (h0 : 0 ≤ x) (h : x < OfNat.ofNat k) (d : k ≤ m) : x.natAbs < m := Int.ofNat_lt.mp (by rw [Int.natAbs_of_nonneg h0]; exact Int.lt_of_lt_of_le h (Int.ofNat_le.mpr d))
theorem on2 {x : Int} {k m : Nat} (h0 : 0 ≤ x) (h : x ≤ OfNat.ofNat k) (d : k < m) : x.natAbs < m := Int.ofNat_lt.mp (by rw [Int.natAbs_of_nonneg h0]; exact Int.lt_of_le_of_lt h (Int.ofNat_lt.mpr d))
theorem on3 {x : Int} {k m : Nat} (h : 1 ≤ x ∧ x ≤ OfNat.ofNat k) (d : k < m) : x.natAbs < m := on2 (Int.le_trans (by decide) h.1) h.2 d
theorem on4 {x : Int} {k m : Nat} (h0 : 0 < x) (h : x < OfNat.ofNat k) (d : k ≤ m) : x.natAbs < m := on1 (Int.le_of_lt h0) h d
theorem on5 {x : Int} {k m : Nat} (h : 0 ≤ x ∧ x ≤ OfNat.ofNat k) (d : k < m) : x.natAbs < m := on2 h.1 h.2 d
theorem op1 {x k : Int} (h : 1 ≤ x ∧ x ≤ k) : 0 ≤ x := Int.le_trans (by decide) h.1
theorem op2 {x k : Int} (h : 1 ≤ x ∧ x ≤ k) : 0 < x := h.1
theorem op3 {x k : Int} (h : 1 ≤ x ∧ x ≤ k) : x ≠ 0 := fun e => absurd (e ▸ h.1) (by decide)
theorem op4 {x l m : Int} {k : Nat} (h : l ≤ x ∧ x ≤ OfNat.ofNat k) (d : (k : Int) ≤ m) : x ≤ m := oc3 h.2 d
theorem op5 {x l m : Int} {k : Nat} (h : l ≤ x ∧ x ≤ OfNat.ofNat k) (d : (k : Int) < m) : x < m := oc4 h.2 d
theorem op6 {x : Int} (h : 1 ≤ x) : 0 ≤ x := Int.le_trans (by decide) h
theorem op7 {x : Int} (h : 0 < x) : x ≠ 0 := (Int.ne_of_lt h).symm
theorem op8 {x j : Int} (h : 0 ≤ x) (d : 0 ≤ j) : 0 ≤ j + x := Int.add_nonneg d h
theorem op9 {x j : Int} (h : 0 ≤ x) (d : 1 ≤ j) : 1 ≤ j + x := Int.le_trans d (Int.le_add_of_nonneg_right h)
theorem opA {x j m : Int} {k : Nat} (h : x < OfNat.ofNat k) (d : j + k ≤ m) : j + x < m := Int.lt_of_lt_of_le (Int.add_lt_add_left h j) d
theorem opB {x j m : Int} {k : Nat} (h : x < OfNat.ofNat k) (d : j + k ≤ m + 1) : j + x ≤ m := Int.le_of_lt_add_one (opA h d)
theorem oq1 {a b : Nat} (h : 0 < a) (e : a = b) : 0 < b := e ▸ h
theorem or1 {a b k m : Nat} (h : a < b) (h2 : b < OfNat.ofNat k) (d : k ≤ m) : a < m := oa2 (Nat.lt_trans h h2) d
theorem or2 {a b k m : Nat} (h : a < b) (h2 : b < OfNat.ofNat k) (d : k ≤ m) : a ≤ m := oa1 (Nat.lt_trans h h2) d
theorem or3 {a b k : Nat} {m : Int} (h : a < b) (h2 : b < OfNat.ofNat k) (d : (k : Int) ≤ m) : (a : Int) < m := ob2 (Nat.lt_trans h h2) d
theorem os1 {a b k m : Nat} (e : a = b) (h : b < OfNat.ofNat k) (d : k ≤ m) : a < m := e ▸ oa2 h d
theorem os2 {a b k m : Nat} (e : a = b) (h : b ≤ OfNat.ofNat k) (d : k < m) : a < m := e ▸ oa4 h d
theorem os3 {a b k m : Nat} (e : a = b) (h : b < OfNat.ofNat k) (d : k ≤ m) : a ≤ m := e ▸ oa1 h d
theorem os4 {a b k m : Nat} (e : a = b) (h : b ≤ OfNat.ofNat k) (d : k ≤ m) : a ≤ m := e ▸ oa3 h d
theorem os5 {a b k : Nat} {m : Int} (e : a = b) (h : b < OfNat.ofNat k) (d : (k : Int) ≤ m) : (a : Int) < m := e ▸ ob2 h d
theorem os6 {a b k : Nat} {m : Int} (e : a = b) (h : b ≤ OfNat.ofNat k) (d : (k : Int) < m) : (a : Int) < m := e ▸ ob4 h d
theorem ot1 {a k : Nat} (h : a ≤ OfNat.ofNat k) (d : k ≤ 256) : (0 + 1) * ((a : Int)).toNat ≤ 256 := by rw [Int.toNat_natCast, Nat.zero_add, Nat.one_mul]; exact oa3 h d
theorem ot2 {a k : Nat} (h : a < OfNat.ofNat k) (d : k ≤ 256) : (0 + 1) * ((a : Int)).toNat ≤ 256 := ot1 (Nat.le_of_lt h) d
theorem ot3 {a : Int} {b : Nat} (h : a < b) (h0 : 0 ≤ a) : a.toNat < b := Int.ofNat_lt.mp (by rw [Int.toNat_of_nonneg h0]; exact h)
theorem ot4 {a b : Nat} (h : a < b) : (a : Int).toNat < b := h
theorem ot5 {a b : Nat} (h : a < b) : (a : Int) < b := Int.ofNat_lt.mpr h
theorem ot6 {a b : Nat} (h : a < b) : (a : Int).toNat < (b : Int).toNat := h
theorem ou1 {a i j k r : Nat} (h : a + k < r) (d : i + j ≤ k) : a + i + j < r := by rw [Nat.add_assoc]; exact Nat.lt_of_le_of_lt (Nat.add_le_add_left d a) h
theorem og1 {a b z : Nat} {R : Prop} (h2 : b < z) (h : a < b ∧ R) : z ≠ a := Nat.ne_of_gt (Nat.lt_trans h.1 h2)
theorem og2 {a b c z : Nat} {R : Prop} (h2 : b < z) (h : c < b ∧ a < b ∧ R) : z ≠ a := Nat.ne_of_gt (Nat.lt_trans h.2.1 h2)
theorem og3 {a b c d z : Nat} {R : Prop} (h2 : b < z) (h : c < b ∧ d < b ∧ a < b ∧ R) : z ≠ a := Nat.ne_of_gt (Nat.lt_trans h.2.2.1 h2)
theorem og4 {a b c d e z : Nat} {R : Prop} (h2 : b < z) (h : c < b ∧ d < b ∧ e < b ∧ a < b ∧ R) : z ≠ a := Nat.ne_of_gt (Nat.lt_trans h.2.2.2.1 h2)
theorem og5 {a b c d e f z : Nat} {R : Prop} (h2 : b < z) (h : c < b ∧ d < b ∧ e < b ∧ f < b ∧ a < b ∧ R) : z ≠ a := Nat.ne_of_gt (Nat.lt_trans h.2.2.2.2.1 h2)
theorem og6 {a b c d e f g z : Nat} {R : Prop} (h2 : b < z) (h : c < b ∧ d < b ∧ e < b ∧ f < b ∧ g < b ∧ a < b ∧ R) : z ≠ a := Nat.ne_of_gt (Nat.lt_trans h.2.2.2.2.2.1 h2)
theorem og7 {a b c d e f g i z : Nat} {R : Prop} (h2 : b < z) (h : c < b ∧ d < b ∧ e < b ∧ f < b ∧ g < b ∧ i < b ∧ a < b ∧ R) : z ≠ a := Nat.ne_of_gt (Nat.lt_trans h.2.2.2.2.2.2.1 h2)
theorem oh1 {a b : Nat} {R : Prop} (h : a < b ∧ R) : b + 1 ≠ a := Nat.ne_of_gt (Nat.lt_succ_of_lt h.1)
theorem oh2 {a b c : Nat} {R : Prop} (h : c < b ∧ a < b ∧ R) : b + 1 ≠ a := Nat.ne_of_gt (Nat.lt_succ_of_lt h.2.1)
theorem oh3 {a b c d : Nat} {R : Prop} (h : c < b ∧ d < b ∧ a < b ∧ R) : b + 1 ≠ a := Nat.ne_of_gt (Nat.lt_succ_of_lt h.2.2.1)
theorem lt2 {a : Nat} (h : a < 2) : a = 0 ∨ a = 1 := (by decide : ∀ a, a < 2 → a = 0 ∨ a = 1) a h
theorem lt3 {a : Nat} (h : a < 3) : a = 0 ∨ a = 1 ∨ a = 2 := (by decide : ∀ a, a < 3 → a = 0 ∨ a = 1 ∨ a = 2) a h
theorem lt4 {a : Nat} (h : a < 4) : a = 0 ∨ a = 1 ∨ a = 2 ∨ a = 3 := (by decide : ∀ a, a < 4 → a = 0 ∨ a = 1 ∨ a = 2 ∨ a = 3) a h
theorem lt5 {a : Nat} (h : a < 5) : a = 0 ∨ a = 1 ∨ a = 2 ∨ a = 3 ∨ a = 4 := (by decide : ∀ a, a < 5 → a = 0 ∨ a = 1 ∨ a = 2 ∨ a = 3 ∨ a = 4) a h
end Part0
theorem ln1 : True := by
  k_with "my k_all" => (assumption)
  k_with "my k_mem" => (first | exact List.Mem.head _ | (refine List.mem_cons_of_mem _ ?_; k_mem) | assumption)
  k_with "my rm" => ((try dsimp +zetaDelta only [depth_under_make, depth_under_kw, depth_in1, depth_deeper, depth_caller, units_in1, units_deeper, Around.mark_units, units_caller, units_make, ktrTop]); first | (refine room ?_ (by assumption); simp only [Nat.reduceLeDiff]; exact Nat.le_add_right _ _) | (have hcL9q := cLine_is; omega))
  k_with "my k_room" => (walk_at "rm")
  k_with "my k_units" => (walk_at "rm")
  k_with "my execs cons" => ((rename Base _ => hb9); (refine execs_tidy hb9 ?_); intro tk9q; (try k_fold))
  k_with "my k_ne" => (refine neN ?_; (try dsimp only); first | with_reducible assumption | (refine Ne.symm ?_; with_reducible assumption))
  k_with "my omega" => (with_reducible first | decide | assumption | (show (_ : Nat) ≤ _; first | exact Nat.zero_le _ | exact oa1 (by assumption) (by decide) | exact oa3 (by assumption) (by decide) | exact or2 (by assumption) (by assumption) (by decide) | exact os3 (by assumption) (by assumption) (by decide) | exact os4 (by assumption) (by assumption) (by decide) | exact Nat.le_of_succ_le (by assumption) | exact Nat.le_succ _ | exact ot1 (by assumption) (by decide) | exact ot2 (by assumption) (by decide) | fail) | (show (_ : Nat) < _; first | exact oa2 (by assumption) (by decide) | exact oa4 (by assumption) (by decide) | exact oe1 (by decide) | exact od1 (by assumption) | exact ou1 (by assumption) (by decide) | exact on1 (by assumption) (by assumption) (by decide) | exact on2 (by assumption) (by assumption) (by decide) | exact on4 (by assumption) (by assumption) (by decide) | exact on3 (by assumption) (by decide) | exact on5 (by assumption) (by decide) | exact oq1 (by assumption) (by assumption) | exact or1 (by assumption) (by assumption) (by decide) | exact os1 (by assumption) (by assumption) (by decide) | exact os2 (by assumption) (by assumption) (by decide) | exact ot3 (by assumption) (by assumption) | exact ot4 (by assumption) | exact ot6 (by assumption) | exact Nat.lt_of_lt_of_eq (by assumption) (by assumption) | exact Nat.lt_trans (by assumption) (by assumption) | exact Nat.lt_of_succ_lt (by assumption) | exact Nat.lt_succ_of_lt (by assumption) | fail) | (show (_ : Int) ≤ _; first | exact Int.natCast_nonneg _ | exact ob1 (by assumption) (by decide) | exact ob3 (by assumption) (by decide) | exact oc1 (by assumption) (by decide) | exact oc3 (by assumption) (by decide) | exact op1 (by assumption) | exact op4 (by assumption) (by decide) | exact op6 (by assumption) | exact op8 (by assumption) (by decide) | exact op9 (by assumption) (by decide) | exact opB (by assumption) (by decide) | exact Int.le_of_lt (by assumption) | fail) | (show (_ : Int) < _; first | exact ob2 (by assumption) (by decide) | exact ob4 (by assumption) (by decide) | exact oc2 (by assumption) (by decide) | exact oc4 (by assumption) (by decide) | exact op2 (by assumption) | exact op5 (by assumption) (by decide) | exact opA (by assumption) (by decide) | exact or3 (by assumption) (by assumption) (by decide) | exact os5 (by assumption) (by assumption) (by decide) | exact os6 (by assumption) (by assumption) (by decide) | exact ot5 (by assumption) | fail) | (show (_ : Nat) ≠ _; first | exact Nat.ne_of_gt (by assumption) | exact Nat.ne_of_lt (by assumption) | exact of1 (by assumption) | exact (of1 (by assumption)).symm | exact of2 (by assumption) | exact (of2 (by assumption)).symm | exact of3 (by assumption) | exact (of3 (by assumption)).symm | exact of4 (by assumption) | exact (of4 (by assumption)).symm | exact of5 (by assumption) | exact (of5 (by assumption)).symm | exact of6 (by assumption) | exact (of6 (by assumption)).symm | exact of7 (by assumption) | exact (of7 (by assumption)).symm | exact og1 (by assumption) (by assumption) | exact (og1 (by assumption) (by assumption)).symm | exact og2 (by assumption) (by assumption) | exact (og2 (by assumption) (by assumption)).symm | exact og3 (by assumption) (by assumption) | exact (og3 (by assumption) (by assumption)).symm | exact og4 (by assumption) (by assumption) | exact (og4 (by assumption) (by assumption)).symm | exact og5 (by assumption) (by assumption) | exact (og5 (by assumption) (by assumption)).symm | exact og6 (by assumption) (by assumption) | exact (og6 (by assumption) (by assumption)).symm | exact og7 (by assumption) (by assumption) | exact (og7 (by assumption) (by assumption)).symm | exact oh1 (by assumption) | exact (oh1 (by assumption)).symm | exact oh2 (by assumption) | exact (oh2 (by assumption)).symm | exact oh3 (by assumption) | exact (oh3 (by assumption)).symm | fail) | (show (_ : Int) ≠ _; first | exact op3 (by assumption) | exact op7 (by assumption) | fail) | fail)
  trivial
section Part1
theorem wo1 : True := by
  w_top off
  trivial
/-- the walk halts here -/
noncomputable def Hold (P : Prop) : Prop := P
theorem Hold.out {P : Prop} (h : Hold P) : P := h
theorem Hold.mk {P : Prop} (h : P) : Hold P := h
theorem hold_ref {M : Model} {A : Around} {pos : List Value} {kw : List (Str × Value)} {Q E : Value → Shared → Prop} {s : Shared} {n : Addr} (l : List Nat) (_ : l.contains n = true) (h : Hold (wpAny M A (call (.ref n) pos kw) Q E s)) : wpAny M A (call (.ref n) pos kw) Q E s := h
theorem fr_know {h₀ h : Heap} {L : Addr} {m : Str → Option Value} {x : Str} {v : Value} (F : Fr h₀ L h m) (e : m x = some v) : Fr h₀ L h (fun z => if z = x then some v else m z) := by
  have : (fun z => if z = x then some v else m z) = m := by
    funext z
    by_cases hz : z = x
    · subst hz; simp [e]
    · simp [hz]
  rw [this]; exact F
theorem whlIf_both {b : Bool} {T F : Prop} (t : b = true → T) (f : b = false → F) : WhlIf b T F := by
  cases b
  · exact WhlIf.no rfl (f rfl)
  · exact WhlIf.yes rfl (t rfl)
noncomputable def WhPost (I : Nat → Shared → Prop) (n : Nat) (Q : Flow → Shared → Prop) (f : Flow) (s : Shared) : Prop := match f with
  | .next => ∃ k, k < n ∧ I k s
  | .cont => ∃ k, k < n ∧ I k s
  | .brk => Q .next s
  | .ret v => Q (.ret v) s
theorem while_ind {prog : Program} {w : World} {A : Around} {E : Value → Shared → Prop} {env : Env} {test : PySem.Expr} {body orelse : List Stmt} {Q : Flow → Shared → Prop} {pos : Pos} (I : Nat → Shared → Prop) (hE : PassesOwn (model prog w) A env E)
    (turn : ∀ n s, I n s → wpAny (model prog w) A (isTrue test env (eval test env)) (fun b s₂ => WhlIf b (wpAny (model prog w) A (execs body env) (WhPost I n Q) E s₂) (wpAny (model prog w) A (execs orelse env) Q E s₂)) E s) :
    ∀ n s, I n s → wpAny (model prog w) A (exec (.While test body orelse pos) env) Q E s := by
  have key : ∀ n s, I n s → WhlRest prog w A E env test body orelse Q 0 s := by
    intro n
    induction n using Nat.strongRecOn with
    | ind n ih =>
      intro s hI
      refine whl_turn (k := 0) hE (wpAny_mono (turn n s hI) (fun b s₂ hb => ?_) fun _ _ z => z)
      cases b with
      | false => exact WhlIf.no rfl (by unfold WhlIf at hb; simpa using hb)
      | true =>
        refine WhlIf.yes rfl (wpAny_mono (by unfold WhlIf at hb; simpa using hb) (fun f s₃ hf => ?_) fun _ _ z => z)
        cases f with
        | next => obtain ⟨k, hk, hI'⟩ := hf; exact ih k hk _ hI'
        | cont => obtain ⟨k, hk, hI'⟩ := hf; exact ih k hk _ hI'
        | brk => exact hf
        | ret v => exact hf
  exact fun n s hI => whl_start 0 (key n s hI)
theorem my_len {prog : Program} {w : World} {A : Around} {E : Value → Shared → Prop} {s : Shared} {h₀ : Heap} {L l : Addr} {news : List (Addr × Obj)} {vs : List Value} {c : Nat} {Q : Value → Shared → Prop} (N : News h₀ L s.heap news) (hm : (l, listOf vs.toArray c) ∈ news) (hfit : vs.length < 2 ^ 62)
    (h : Q (.int (vs.length : Nat) (s.toks + 1)) { s with toks := s.toks + 1 + 1 }) : wpAny (model prog w) A (call (.builtin "len") [.ref l]) Q E s := by
  have e : vs.toArray.size = vs.length := by simp
  refine Calls.call_len_list (PySem.IsL.isList (n := c) (N _ hm).1) (by omega) ?_
  rw [e]
  exact h

section
variable {prog : Program} {w : World} {A : Around} {E : Value → Shared → Prop} {s : Shared} {h₀ : Heap} {L D : Addr} {news : List (Addr × Obj)} {vs : List Value} {n : Nat} {ns : List Int} {k : Int} {u : Tok} {x : Value} {value slice : PySem.Expr} {Q : Value → Shared → Prop}
/-- an item of a list of the ledger, at a place that the facts know -/
theorem my_item (N : News h₀ L s.heap news) (hm : (D, listOf vs.toArray n) ∈ news) (hx : vs[k.toNat]? = some x) (h0 : 0 ≤ k) (hf : k < 2 ^ 63) (h : Q x s)
    (hs : subscripted slice false (.ref D) (.int k u) = operate [.ref D, .int k u] (getItem (.ref D) (.int k u)) := by with_unfolding_all rfl) :
    wpAny (model prog w) A (subscriptTail value slice (.ref D) (.int k u)) Q E s :=
  kba_turn (value' := PySem.Expr.Name (PySem.Str.ofString "_") ⟨0, 0, 0, 0⟩) (fun _ => rfl) (kim_list N hm rfl rfl h0 hf hx h hs (fun _ => rfl))
theorem my_itemI (N : News h₀ L s.heap news) (hm : (D, listOf vs.toArray n) ∈ news) (hi : IntsAre vs ns) (h0 : 0 ≤ k) (h1 : k < ns.length) (hf : k < 2 ^ 63) (h : ∀ t, Q (.int (ns.getD k.toNat 0) t) s)
    (hs : subscripted slice false (.ref D) (.int k u) = operate [.ref D, .int k u] (getItem (.ref D) (.int k u)) := by with_unfolding_all rfl) :
    wpAny (model prog w) A (subscriptTail value slice (.ref D) (.int k u)) Q E s :=
  kba_turn (value' := PySem.Expr.Name (PySem.Str.ofString "_") ⟨0, 0, 0, 0⟩) (fun _ => rfl) (ksa_sub N hm hi h0 h1 hf h hs)
end

section
variable {prog : Program} {w : World} {A : Around} {E : Value → Shared → Prop} {s : Shared} {h₀ : Heap} {L D b : Addr} {news : List (Addr × Obj)} {vs : List Value} {n n' : Nat} {Q : Value → Shared → Prop}
/-- a list of the ledger against [] -/
theorem my_eqnil (N : News h₀ L s.heap news) (ha : (D, listOf vs.toArray n) ∈ news) (hb : (b, listOf #[] n') ∈ news) (hu : A.units < cLine) (h : Q (.bool vs.isEmpty) s) :
    wpAny (model prog w) A (compareOp .Eq (.ref D) (.ref b)) Q E s := by
  have la : s.heap.IsList D vs.toArray := PySem.IsL.isList (n := n) (N _ ha).1
  have lb : s.heap.IsList b #[] := PySem.IsL.isList (n := n') (N _ hb).1
  cases vs with
  | nil => exact eq_listAt (e := fun _ => true) la lb rfl hu (fun j h1 _ => absurd h1 (Nat.not_lt_zero _)) (by simpa using h)
  | cons v r => exact eq_list_lengthsAt la lb (by simp) hu (by simpa using h)
theorem my_nenil (N : News h₀ L s.heap news) (ha : (D, listOf vs.toArray n) ∈ news) (hb : (b, listOf #[] n') ∈ news) (hu : A.units < cLine) (h : Q (.bool (!vs.isEmpty)) s) :
    wpAny (model prog w) A (compareOp .NotEq (.ref D) (.ref b)) Q E s := by
  have la : s.heap.IsList D vs.toArray := PySem.IsL.isList (n := n) (N _ ha).1
  have lb : s.heap.IsList b #[] := PySem.IsL.isList (n := n') (N _ hb).1
  cases vs with
  | nil => exact RcNeAt.lists (e := fun _ => true) la lb rfl hu (fun j h1 _ => absurd h1 (Nat.not_lt_zero _)) prog w E Q (by simpa using h)
  | cons v r => exact RcNeAt.lists_lengths la lb (by simp) hu prog w E Q (by simpa using h)
end
theorem ints_pairs : ∀ {vs : List Value} {ns : List Int}, IntsAre vs ns → ∃ xs : List (Int × Tok), vs = xs.map (fun p => Value.int p.1 p.2) ∧ ns = xs.map (·.1)
  | _, _, .nil => ⟨[], rfl, rfl⟩
  | _, _, .cons k t r => by
    obtain ⟨xs, e1, e2⟩ := ints_pairs r
    exact ⟨(k, t) :: xs, by rw [e1]; rfl, by rw [e2]; rfl⟩
theorem my_min {prog : Program} {w : World} {A : Around} {E : Value → Shared → Prop} {s : Shared} {h₀ : Heap} {L l : Addr} {m : Str → Option Value} {news : List (Addr × Obj)} {vs : List Value} {ns : List Int} {c : Nat} {Q : Value → Shared → Prop}
    (hh : A.handled = none) (F : Fr h₀ L s.heap m) (N : News h₀ L s.heap news) (hm : (l, listOf vs.toArray c) ∈ news) (hi : IntsAre vs ns) (hne : 0 < vs.length)
    (h : ∀ x t h' tk, x ∈ ns → Fr h₀ L h' m → News h₀ L h' news → Q (.int x t) { s with heap := h', toks := tk }) : wpAny (model prog w) A (call (.builtin "min") [.ref l]) Q E s := by
  obtain ⟨xs, rfl, rfl⟩ := ints_pairs hi
  have hl : s.heap.IsList l (intItems xs.toArray) := by
    have := PySem.IsL.isList (n := c) (N _ hm).1
    simpa [intItems] using this
  refine min_intList hh hl (by simpa using hne) fun v h' tk hv hk => ?_
  obtain ⟨t, rfl⟩ := intItems_at hv
  refine h _ t h' tk ?_ (F.keeps hk) (N.grown hk)
  generalize argBest _ _ = k at hv ⊢
  have hv2 : (xs.toArray[k]?).map (fun p => Value.int p.1 p.2) = some (Value.int (numAt xs.toArray k) t) := by rw [← Array.getElem?_map]; exact hv
  cases e : xs.toArray[k]? with
  | none => rw [e] at hv2; cases hv2
  | some p =>
    have : numAt xs.toArray k = p.1 := by unfold numAt; rw [e]; rfl
    rw [this]
    exact List.mem_map.mpr ⟨p, List.mem_toArray.mp (Array.mem_of_getElem? e), rfl⟩
/-- the source of the draws -/
noncomputable def SrcOk (prog : Program) (w : World) (src : Addr) (o : Obj) : Prop :=
  (src == sysModules) = false ∧ ∃ d st td ts, o.IsDictOf (strKind prog w) [("digits", .int d td), ("stir", .int st ts)] ∧
    FlatPairs PyData.str [("digits", .int d td), ("stir", .int st ts)] [(.str "digits", .int d), (.str "stir", .int st)] ∧ 0 ≤ d ∧ 0 ≤ st ∧ st < 2147483647

theorem stored_digits (d st x : Int) (td ts tx : Tok) : stored [((Str.ofString "digits"), Value.int d td), ((Str.ofString "stir"), Value.int st ts)] (Str.ofString "digits") (.int x tx) = [((Str.ofString "digits"), .int x tx), ((Str.ofString "stir"), .int st ts)] := by
  have h : (Str.ofString "stir" = Str.ofString "digits") = False := by simp; decide +kernel
  simp [stored, h]
theorem stored_stir (d st x : Int) (td ts tx : Tok) : stored [((Str.ofString "digits"), Value.int d td), ((Str.ofString "stir"), Value.int st ts)] (Str.ofString "stir") (.int x tx) = [((Str.ofString "digits"), .int d td), ((Str.ofString "stir"), .int x tx)] := by
  have h : (Str.ofString "digits" = Str.ofString "stir") = False := by simp; decide +kernel
  simp [stored, h]

theorem src_ok1 {prog : Program} {w : World} {src : Addr} {o' : Obj} {d st x : Int} {td ts tx : Tok} (lo : (src == sysModules) = false) (hd : o'.IsDictOf (strKind prog w) (stored [((Str.ofString "digits"), Value.int d td), ((Str.ofString "stir"), Value.int st ts)] (Str.ofString "digits") (.int x tx)))
    (h0 : 0 ≤ x) (h1 : 0 ≤ st) (h2 : st < 2147483647) : SrcOk prog w src o' := by
  rw [stored_digits] at hd
  exact ⟨lo, _, _, _, _, hd, .cons (.int _ _) (.cons (.int _ _) .nil), h0, h1, h2⟩
theorem src_ok2 {prog : Program} {w : World} {src : Addr} {o' : Obj} {d st x : Int} {td ts tx : Tok} (lo : (src == sysModules) = false) (hd : o'.IsDictOf (strKind prog w) (stored [((Str.ofString "digits"), Value.int d td), ((Str.ofString "stir"), Value.int st ts)] (Str.ofString "stir") (.int x tx)))
    (h0 : 0 ≤ d) (h1 : 0 ≤ x) (h2 : x < 2147483647) : SrcOk prog w src o' := by
  rw [stored_stir] at hd
  exact ⟨lo, _, _, _, _, hd, .cons (.int _ _) (.cons (.int _ _) .nil), h0, h1, h2⟩
theorem fdiv_nonneg' {a b : Int} (h : 0 ≤ a) (hb : 0 < b) : 0 ≤ a.fdiv b := by
  rw [Int.fdiv_eq_ediv_of_nonneg _ (by omega)]; exact Int.ediv_nonneg h (by omega)

section
variable {prog : Program} {w : World} {p : Program} {loose : List Str} {mean : ExcName → Option Value} {mg mb : Str → Option Value}
    {dp un : Nat} {gd : Option (List Code)} {cn : Str} {cs : Scope} {a : Addr} {ccd : Value} {cl : List (Str × Addr)} {outer : List Env} {A₀ : Around} {base h₀ : Heap} {L : Addr} {m : Str → Option Value} {s : Shared} {Q E : Value → Shared → Prop}
    {news : List (Addr × Obj)}
set_option maxHeartbeats 4000000 in
theorem next_c {src : Addr} {o : Obj} {top : Int} {tt : Tok} {rest : List (Addr × Obj)}
    (B : Below A₀ base outer h₀) (F : Fr h₀ L s.heap m) (X : (hK w.params).In h₀) (N : News h₀ L s.heap ((src, o) :: rest)) (T : Top p loose mean mg mb h₀) (hk : cs.kind = .function)
    (hrest : ∀ q ∈ rest, q.1 ≠ src) (hS : SrcOk prog w src o)
    (hdp : dp + 1 < recursionLimit) (hun : un + 8 < cLine) (htop : 0 < top) (htop2 : top < 100000)
    (ret : ∀ (r : Int) (t : Tok) (h' : Heap) (tk' : Nat) (o' : Obj), 0 ≤ r → r < top → SrcOk prog w src o' → Fr h₀ L h' m → News h₀ L h' ((src, o') :: rest) → Q (.int r t) { s with heap := h', toks := tk' }) :
    wpAny (model prog w) (ktrTop dp un gd cn cs L a ccd cl outer) (call (.ref 246) [.ref src, .int top tt]) Q E s := by
  have kf : (fun (_ : OpenLaw) (_ : Params → Frag) => True) PySem.Challenge.rw_pc0369_01 hK := by k_fill; trivial
  clear kf
  have hb9 : Base s := ⟨⟩
  refine gl fun G9 hG9 => ?_
  obtain ⟨lo, d, st, td, ts, hdict, hflat, hd0, hs0, hs1⟩ := hS
  refine hG9 ?_
  clear hG9 G9
  have htb : top.natAbs < 1073741824 := by omega
  refine wpAny_call ?_
  k_dflt ktr_enter
  k_steps
  · exact ret _ _ _ _ _ (fmod_lo _ htop) (fmod_hi _ htop) (src_ok1 lo (by assumption) (fdiv_nonneg' hd0 htop) hs0 hs1) (by k_asm) (cb_drop (by assumption) (by kcj_all))
  · exact ret _ _ _ _ _ (fmod_lo _ htop) (fmod_hi _ htop) (src_ok2 lo (by assumption) hd0 (fmod_lo _ (by decide)) (fmod_hi _ (by decide))) (by k_asm) (cb_drop (by assumption) (by kcj_all))

theorem next_u {src : Addr} {o : Obj} {top : Int} {tt : Tok} {g : Obj → List (Addr × Obj)}
    (B : Below A₀ base outer h₀) (F : Fr h₀ L s.heap m) (X : (hK w.params).In h₀) (T : Top p loose mean mg mb h₀) (hk : cs.kind = .function) (N : News h₀ L s.heap news) (U : UpdF src o news g) (hS : SrcOk prog w src o)
    (hdp : dp + 1 < recursionLimit) (hun : un + 8 < cLine) (htop : 0 < top) (htop2 : top < 100000)
    (ret : ∀ (r : Int) (t : Tok) (h' : Heap) (tk' : Nat) (o' : Obj), 0 ≤ r → r < top → SrcOk prog w src o' → Fr h₀ L h' m → News h₀ L h' (g o') → Q (.int r t) { s with heap := h', toks := tk' }) :
    wpAny (model prog w) (ktrTop dp un gd cn cs L a ccd cl outer) (call (.ref 246) [.ref src, .int top tt]) Q E s := by
  obtain ⟨pre, post, rfl, hg, e1, e2⟩ := U.split
  refine next_c (rest := pre ++ post) B F X (fun q hq => N q ?_) T hk (fun q hq => ?_) hS hdp hun htop htop2 fun r t h' tk' o' h0 h1 hS' F' N' => ret r t h' tk' o' h0 h1 hS' F' fun q hq => N' q ?_
  · rcases List.mem_cons.mp hq with rfl | hq
    · simp
    · rcases List.mem_append.mp hq with hq | hq <;> simp [hq]
  · rcases List.mem_append.mp hq with hq | hq
    · exact e1 q hq
    · exact e2 q hq
  · rw [hg] at hq
    rcases List.mem_append.mp hq with hq | hq
    · simp [hq]
    · rcases List.mem_cons.mp hq with rfl | hq <;> simp_all
end
end Part1
theorem ln2 : True := by
  k_with "my call builtin:len" => (k_here; k_dflt (refine' my_len ?k19q9 ?k29q9 ?k39q9 ?_; (case k19q9 => k_asm); (case k29q9 => k_mem); (case k39q9 => ((try simp only [List.length_map, List.length_append, List.length_cons, List.length_nil, List.length_set]); omega)); k_whole); (try simp only [List.length_append, List.length_cons, List.length_nil, Nat.zero_add, List.length_map]))
  k_with "my wdo" => (first | with_reducible assumption | decide | omega)
  k_with "my item" => (k_here; k_dflt (first | (refine' my_item ?N9q11 ?m9q11 ?hx9q11 ?h09q11 ?hf9q11 ?_; (case N9q11 => k_asm); (case m9q11 => k_mem); (case hx9q11 => with_reducible assumption); (case h09q11 => walk_at "wdo"); (case hf9q11 => walk_at "wdo"); k_whole) | (refine' my_itemI ?N9q11 ?m9q11 ?i9q11 ?h09q11 ?h19q11 ?hf9q11 ?_; (case N9q11 => k_asm); (case m9q11 => k_mem); (case i9q11 => with_reducible assumption); (case h09q11 => walk_at "wdo"); (case h19q11 => first | with_reducible assumption | ((try simp only [List.length_set, List.length_replicate]); omega)); (case hf9q11 => walk_at "wdo"); k_whole; intro _)))
  k_with "my subscriptTail Attribute Name Name ref int" => (walk_at "item")
  k_with "my subscriptTail Name Name ref int" => (walk_at "item")
  k_with "my exec For Name Name cons nil" => (k_here; (rename Fr _ _ _ _ => lF9q); (with_unfolding_all refine' For_invVF lF9q ?k19q14 ?k29q14 ?_; (case k19q14 => exact rfl); (case k29q14 => exact rfl); k_whole))
  k_with "my exec For Name Call cons nil" => (walk_at "exec For Name Name cons nil")
  k_with "my pyIter ref" => (k_here; (with_reducible show wpAny _ _ (pyIter (Value.ref _)) (fun it s₂ => LoopAtV _ _ _ _ _ _ _ _ _ it s₂) _ _); refine Hold.out ?_)
  k_with "my exec While Compare cons nil" => (k_here; refine Hold.out ?_)
  k_with "my compareOp Eq ref ref" => (k_here; k_dflt (refine' my_eqnil ?N9q18 ?m9q18 ?b9q18 ?u9q18 ?_; (case N9q18 => k_asm); (case b9q18 => k_mem); (case m9q18 => k_mem); (case u9q18 => k_units); k_whole))
  k_with "my compareOp NotEq ref ref" => (k_here; k_dflt (refine' my_nenil ?N9q19 ?m9q19 ?b9q19 ?u9q19 ?_; (case N9q19 => k_asm); (case b9q19 => k_mem); (case m9q19 => k_mem); (case u9q19 => k_units); k_whole))
  k_with "my io" => ((try simp only [decide_eq_true_eq, decide_eq_false_iff_not, Bool.not_eq_true', Bool.not_eq_false', ne_eq, Bool.not_eq_true, decide_not, Bool.not_true, Bool.not_false, bne_iff_ne, beq_iff_eq, bne_eq_false_iff_eq, beq_eq_false_iff_ne]); omega)
  k_with "my ite" => (k_here; k_openite; first | (refine ite_pos (by with_reducible assumption) ?_) | (refine ite_neg (by with_reducible assumption) ?_) | (refine ite_isFalse (by with_reducible assumption) ?_) | (refine ite_pos (by walk_at "io") ?_) | (refine ite_neg (by walk_at "io") ?_))
  k_with "my call builtin:min cons nil" => (k_here; k_dflt (refine' my_min ?h9q22 ?F9q22 ?N9q22 ?m9q22 ?i9q22 ?z9q22 ?_; (case h9q22 => exact rfl); (case F9q22 => k_asm); (case N9q22 => k_asm); (case m9q22 => k_mem); (case i9q22 => assumption); (case z9q22 => first | assumption | omega)); intro x9q t9q h9q tk9q hx9q F9q N9q; (try (have hc9q := (show ∀ x : Int, x ∈ _ → 1 ≤ x ∧ x ≤ 7 by assumption) _ hx9q)); (try dsimp only))
  k_with "my look" => (first | with_reducible assumption | exact Eq.refl (some _) | ((rename ∀ (x : Str) (v : Value), _ = some v → _ = some v => e9q); exact e9q _ _ (Eq.refl (some _))) | (refine (if_neg (by decide)).trans ?_; walk_at "look"))
  k_with "my eval Name" => (k_here; k_dflt (refine' nameX_L ?F9q24 ?v9q24 ?_ ?a9q24 ?b9q24; (case b9q24 => exact Eq.refl (some NameKind.local)); (case F9q24 => k_asm); (case a9q24 => rfl); (case v9q24 => walk_at "look"); k_whole))
  trivial
theorem ln3 : True := by
  k_with "my exec Raise some none" => (k_here; (refine Hold.out ?_))
  trivial
section Part2
theorem wo2 : True := by
  w_top off
  trivial
noncomputable abbrev ent (w : World) (x : Str) (k : Tok) (v : Value) : DictEntry := ⟨PyData.keyHash w.params x, .str x k, v⟩
noncomputable abbrev rowEs (w : World) (k1 k2 k3 k4 k5 : Tok) (most moct : Value) (th : Addr) (octs dr : Value) : List DictEntry :=
  [ent w "most" k1 most, ent w "most_octets" k2 moct, ent w "things" k3 (.ref th), ent w "octets" k4 octs, ent w "dropped" k5 dr]
noncomputable abbrev wfEs (w : World) (k1 k2 k3 k4 k5 k6 : Tok) (unit : Value) (st ro fi la : Addr) (time : Value) : List DictEntry :=
  [ent w "unit" k1 unit, ent w "steps" k2 (.ref st), ent w "rows" k3 (.ref ro), ent w "finishes" k4 (.ref fi), ent w "last" k5 (.ref la), ent w "time" k6 time]

/-- a row of things, and its finish numbers -/
structure Row where
  y : Addr
  dy : Addr
  th : Addr
  fn : Addr
  most : Int
  moct : Int
  octs : Int
  things : List (Addr × Int × Int)
  fins : List Int
structure WFq where
  x : Addr
  dx : Addr
  st : Addr
  ro : Addr
  fi : Addr
  la : Addr
  unit : Int
  time : Int
  steps : List Int
  last : List Int
  rows : List Row
noncomputable abbrev tupO (vs : List Value) (n : Nat) : Obj := { cls := .type "tuple", data := .seq vs.toArray n }
noncomputable abbrev thRefs (r : Row) : List Value := r.things.map fun x => Value.ref x.1

/-- the object of a row, of a WeightedFair; a list of ints; a pair of ints: by membership, their tokens unnamed -/
inductive RowAt (w : World) (news : List (Addr × Obj)) (dy : Addr) (most moct : Int) (th : Addr) (octs : Int) : Prop
  | mk (k1 k2 k3 k4 k5 t1 t2 t3 : Tok) (dr : Int) (t4 : Tok) (h : (dy, dictOf (rowEs w k1 k2 k3 k4 k5 (.int most t1) (.int moct t2) th (.int octs t3) (.int dr t4)) 5) ∈ news) : RowAt w news dy most moct th octs
inductive WfAt (w : World) (news : List (Addr × Obj)) (dx : Addr) (unit : Int) (st ro fi la : Addr) (time : Int) : Prop
  | mk (k1 k2 k3 k4 k5 k6 t1 t2 : Tok) (h : (dx, dictOf (wfEs w k1 k2 k3 k4 k5 k6 (.int unit t1) st ro fi la (.int time t2)) 6) ∈ news) : WfAt w news dx unit st ro fi la time
inductive IntL (news : List (Addr × Obj)) (a : Addr) (ns : List Int) : Prop
  | mk (c : Nat) (lv : List Value) (h : (a, listOf lv.toArray c) ∈ news) (hi : IntsAre lv ns) : IntL news a ns
inductive TpIn (news : List (Addr × Obj)) (a : Addr) (x y : Int) : Prop
  | mk (t1 t2 : Tok) (c : Nat) (h : (a, tupO [.int x t1, .int y t2] c) ∈ news) : TpIn news a x y
noncomputable def RowY (w : World) (news : List (Addr × Obj)) (r : Row) : Prop :=
  (r.y, instObj 106 r.dy) ∈ news ∧
  RowAt w news r.dy r.most r.moct r.th r.octs ∧
  (∃ c, (r.th, listOf (thRefs r).toArray c) ∈ news)
section
variable {prog : Program} {w : World} {A : Around} {s : Shared} {h₀ : Heap} {L : Addr} {m : Str → Option Value} {env : Env} {elt ct : PySem.Expr} {x : Str} {scope : Scope} {cl : List (Str × Addr)} {S : List (Addr × Obj) → Prop} {P : Nat → Value → Prop} {Fin : List Value → List (Addr × Obj) → Prop} {n : Nat}
theorem rest_ind (J : Nat → List Value → List (Addr × Obj) → Prop)
    (fin : ∀ ys news, J n ys news → Fin ys news)
    (step : ∀ i v ys news I oI C oC D m₂ h tk (E' : Value → Shared → Prop), i < n → P i v → J i ys news → LCg.NsObj oC m₂ → m₂ x = some v → Fr h₀ L h m → News h₀ L h ((I, oI) :: (C, oC) :: (D, LCg.lst ys) :: news) → LCg.Off3 I C D news → ((@Ne Nat I C) ∧ (@Ne Nat I D) ∧ (@Ne Nat C D)) →
      wpAny (model prog w) A (eval elt (compEnvC scope cl C env)) (LCg.CompEnd h₀ L m { s with heap := h, toks := tk } I oI C oC D (LCg.lst ys) S (fun y news' => J (i + 1) (ys ++ [y]) news')) E' { s with heap := h, toks := tk }) :
    ∀ k i ys news, i + k = n → J i ys news → LCg.CompRest prog w A h₀ L m env elt x scope cl s S P Fin k i ys news := by
  intro k
  induction k with
  | zero => intro i ys news e hj; have : i = n := by omega
            subst this; exact fin _ _ hj
  | succ k ih =>
    intro i ys news e hj
    refine LCg.CompRest.succ fun v I oI C oC D m₂ h tk E' hP hC hx F N off ne => ?_
    refine wpAny_mono (step i v ys news I oI C oC D m₂ h tk E' (by omega) hP hj hC hx F N off ne) (fun y s' he => ?_) fun _ _ z => z
    refine gl fun G9 hG9 => ?_
    obtain ⟨h', tk', news', e', F', N', off', hS', hr⟩ := he
    refine hG9 ?_
    clear hG9 G9
    exact ⟨h', tk', news', e', F', N', off', hS', ih (i + 1) _ _ (by omega) hr⟩
theorem restT_ind (J : Nat → List Value → List (Addr × Obj) → Prop)
    (fin : ∀ ys news, J n ys news → Fin ys news)
    (step : ∀ i v ys news I oI C oC D m₂ h tk (E' : Value → Shared → Prop), i < n → P i v → J i ys news → LCg.NsObj oC m₂ → m₂ x = some v → Fr h₀ L h m → News h₀ L h ((I, oI) :: (C, oC) :: (D, LCg.lst ys) :: news) → LCg.Off3 I C D news → ((@Ne Nat I C) ∧ (@Ne Nat I D) ∧ (@Ne Nat C D)) →
      wpAny (model prog w) A (isTrue ct (compEnvC scope cl C env) (eval ct (compEnvC scope cl C env))) (fun ok s' => if ok = true then
        wpAny (model prog w) A (eval elt (compEnvC scope cl C env)) (LCg.CompEnd h₀ L m { s with heap := h, toks := tk } I oI C oC D (LCg.lst ys) S (fun y news' => J (i + 1) (ys ++ [y]) news')) E' s'
        else LCg.CompEnd h₀ L m { s with heap := h, toks := tk } I oI C oC D (LCg.lst ys) S (fun _ news' => J (i + 1) ys news') Value.none s') E' { s with heap := h, toks := tk }) :
    ∀ k i ys news, i + k = n → J i ys news → LCt.CompRestT prog w A h₀ L m env ct elt x scope cl s S P Fin k i ys news := by
  intro k
  induction k with
  | zero => intro i ys news e hj; have : i = n := by omega
            subst this; exact fin _ _ hj
  | succ k ih =>
    intro i ys news e hj
    refine LCt.CompRestT.succ fun v I oI C oC D m₂ h tk E' hP hC hx F N off ne => ?_
    refine wpAny_mono (step i v ys news I oI C oC D m₂ h tk E' (by omega) hP hj hC hx F N off ne) (fun ok s' he => ?_) fun _ _ z => z
    have up : ∀ {R : Value → List Value} {y : Value} {s'' : Shared}, LCg.CompEnd h₀ L m { s with heap := h, toks := tk } I oI C oC D (LCg.lst ys) S (fun y news' => J (i + 1) (R y) news') y s'' →
        LCg.CompEnd h₀ L m { s with heap := h, toks := tk } I oI C oC D (LCg.lst ys) S (fun y news' => LCt.CompRestT prog w A h₀ L m env ct elt x scope cl s S P Fin k (i + 1) (R y) news') y s'' := by
      rintro R y s'' HH9
      refine gl fun G9 hG9 => ?_
      obtain ⟨h', tk', news', e', F', N', off', hS', hr⟩ := HH9
      refine hG9 ?_
      clear hG9 G9
      exact ⟨h', tk', news', e', F', N', off', hS', ih (i + 1) _ _ (by omega) hr⟩
    cases ok with
    | true => simp only [if_true] at he ⊢; exact wpAny_mono he (fun y s'' z => up (R := fun y => ys ++ [y]) z) fun _ _ z => z
    | false => simp only [Bool.false_eq_true, if_false] at he ⊢; exact up (R := fun _ => ys) he
end
section
variable {prog : Program} {w : World} {A : Around} {s : Shared} {h₀ : Heap} {L : Addr} {m : Str → Option Value} {env : Env} {elt ct : PySem.Expr} {x x₂ : Str} {scope : Scope} {cl : List (Str × Addr)} {S : List (Addr × Obj) → Prop} {P : Nat → Value → Prop} {Fin : List Value → List (Addr × Obj) → Prop} {n : Nat} {news : List (Addr × Obj)}
theorem rest_start (J : List (Addr × Obj) → Nat → List Value → List (Addr × Obj) → Prop) (h0 : J news 0 [] news)
    (fin : ∀ ys nw, J news n ys nw → Fin ys nw)
    (step : ∀ i v ys nw I oI C oC D m₂ h tk (E' : Value → Shared → Prop), i < n → P i v → J news i ys nw → LCg.NsObj oC m₂ → m₂ x = some v → Fr h₀ L h m → News h₀ L h ((I, oI) :: (C, oC) :: (D, LCg.lst ys) :: nw) → LCg.Off3 I C D nw → ((@Ne Nat I C) ∧ (@Ne Nat I D) ∧ (@Ne Nat C D)) →
      wpAny (model prog w) A (eval elt (compEnvC scope cl C env)) (LCg.CompEnd h₀ L m { s with heap := h, toks := tk } I oI C oC D (LCg.lst ys) S (fun y news' => J news (i + 1) (ys ++ [y]) news')) E' { s with heap := h, toks := tk }) :
    LCg.CompRest prog w A h₀ L m env elt x scope cl s S P Fin n 0 [] news := rest_ind (J news) fin step n 0 [] news (Nat.zero_add _) h0
theorem restT_start (J : List (Addr × Obj) → Nat → List Value → List (Addr × Obj) → Prop) (h0 : J news 0 [] news)
    (fin : ∀ ys nw, J news n ys nw → Fin ys nw)
    (step : ∀ i v ys nw I oI C oC D m₂ h tk (E' : Value → Shared → Prop), i < n → P i v → J news i ys nw → LCg.NsObj oC m₂ → m₂ x = some v → Fr h₀ L h m → News h₀ L h ((I, oI) :: (C, oC) :: (D, LCg.lst ys) :: nw) → LCg.Off3 I C D nw → ((@Ne Nat I C) ∧ (@Ne Nat I D) ∧ (@Ne Nat C D)) →
      wpAny (model prog w) A (isTrue ct (compEnvC scope cl C env) (eval ct (compEnvC scope cl C env))) (fun ok s' => if ok = true then
        wpAny (model prog w) A (eval elt (compEnvC scope cl C env)) (LCg.CompEnd h₀ L m { s with heap := h, toks := tk } I oI C oC D (LCg.lst ys) S (fun y news' => J news (i + 1) (ys ++ [y]) news')) E' s'
        else LCg.CompEnd h₀ L m { s with heap := h, toks := tk } I oI C oC D (LCg.lst ys) S (fun _ news' => J news (i + 1) ys news') Value.none s') E' { s with heap := h, toks := tk }) :
    LCt.CompRestT prog w A h₀ L m env ct elt x scope cl s S P Fin n 0 [] news := restT_ind (J news) fin step n 0 [] news (Nat.zero_add _) h0
end
section
variable {prog : Program} {w : World} {A : Around} {s : Shared} {h₀ : Heap} {L : Addr} {m : Str → Option Value} {env : Env} {elt : PySem.Expr} {x x₂ : Str} {scope : Scope} {cl : List (Str × Addr)} {S : List (Addr × Obj) → Prop} {P : Nat → Value → Prop} {Fin : List Value → List (Addr × Obj) → Prop} {n : Nat} {news : List (Addr × Obj)}
theorem restP_start (J : List (Addr × Obj) → Nat → List Value → List (Addr × Obj) → Prop) (h0 : J news 0 [] news)
    (fin : ∀ ys nw, J news n ys nw → Fin ys nw)
    (step : ∀ i v ys nw, i < n → P i v → J news i ys nw → ∃ (t : Addr) (ot : Obj) (v₁ v₂ : Value) (nt : Nat), v = .ref t ∧ (t, ot) ∈ nw ∧ ot.cls = .type "tuple" ∧ ot.data = .seq #[v₁, v₂] nt ∧
      ∀ I oI C oC D m₂ h tk (E' : Value → Shared → Prop), LCg.NsObj oC m₂ → m₂ x = some v₁ → m₂ x₂ = some v₂ → Fr h₀ L h m → News h₀ L h ((I, oI) :: (C, oC) :: (D, LCg.lst ys) :: nw) → LCg.Off3 I C D nw → ((@Ne Nat I C) ∧ (@Ne Nat I D) ∧ (@Ne Nat C D)) →
      wpAny (model prog w) A (eval elt (compEnvC scope cl C env)) (LCg.CompEnd h₀ L m { s with heap := h, toks := tk } I oI C oC D (LCg.lst ys) S (fun y news' => J news (i + 1) (ys ++ [y]) news')) E' { s with heap := h, toks := tk }) :
    LCp.CompRestP prog w A h₀ L m env elt x x₂ scope cl s S P Fin n 0 [] news := by
  have key : ∀ k i ys nw, i + k = n → J news i ys nw → LCp.CompRestP prog w A h₀ L m env elt x x₂ scope cl s S P Fin k i ys nw := by
    intro k
    induction k with
    | zero => intro i ys nw e hj; have : i = n := by omega
              subst this; exact fin _ _ hj
    | succ k ih =>
      intro i ys nw e hj
      refine LCp.CompRestP.succ fun v hP => ?_
      refine gl fun G9 hG9 => ?_
      obtain ⟨t, ot, v₁, v₂, nt, e1, e2, e3, e4, hs⟩ := step i v ys nw (by omega) hP hj
      refine hG9 ?_
      clear hG9 G9
      refine ⟨t, ot, v₁, v₂, nt, e1, e2, e3, e4, fun I oI C oC D m₂ h tk E' hC hx hx2 F N off ne => ?_⟩
      refine wpAny_mono (hs I oI C oC D m₂ h tk E' hC hx hx2 F N off ne) (fun y s' he => ?_) fun _ _ z => z
      refine gl fun G9 hG9 => ?_
      obtain ⟨h', tk', news', e', F', N', off', hS', hr⟩ := he
      refine hG9 ?_
      clear hG9 G9
      exact ⟨h', tk', news', e', F', N', off', hS', ih (i + 1) _ _ (by omega) hr⟩
  exact key n 0 [] news (Nat.zero_add _) h0
end
theorem ln4 : True := by
  k_with "my eval ListComp Call cons" => ((fail_if_success (k_extra "off6")); (k_here; k_dflt (refine LCg.ListComp_U (F₀ := by k_asm) (by rfl) (by decide) (by rfl) (by decide) (by rfl) ?_)))
  trivial
section
variable {prog : Program} {w : World} {p : Program} {loose : List Str} {mean : ExcName → Option Value} {mg mb : Str → Option Value}
    {dp un : Nat} {gd : Option (List Code)} {cn : Str} {cs : Scope} {a : Addr} {ccd : Value} {cl : List (Str × Addr)} {outer : List Env} {A₀ : Around} {base h₀ : Heap} {L : Addr} {m : Str → Option Value} {s : Shared} {Q E : Value → Shared → Prop}
    {news : List (Addr × Obj)}
set_option maxHeartbeats 8000000 in
theorem waiting_c {q : WFq} {k1 k2 k3 k4 k5 k6 : Tok} {uv tv : Value} {la : Addr} {c : Nat} 
    (B : Below A₀ base outer h₀) (F : Fr h₀ L s.heap m) (X : (hK w.params).In h₀) (T : Top p loose mean mg mb h₀) (hk : cs.kind = .function) (N : News h₀ L s.heap news) (hx : (q.x, instObj 165 q.dx) ∈ news) (hdx : (q.dx, dictOf (wfEs w k1 k2 k3 k4 k5 k6 uv q.st q.ro q.fi la tv) 6) ∈ news) (hro : (q.ro, listOf (q.rows.map fun r => Value.ref r.y).toArray c) ∈ news)
    (hW : ∀ r ∈ q.rows, RowY w news r) (hlen : q.rows.length < 100) (hlr : ∀ r ∈ q.rows, r.things.length < 1000) (hdp : dp + 9 < recursionLimit) (hun : un + 100 < cLine)
    (ret : ∀ t h' tk', Fr h₀ L h' m → News h₀ L h' news → Q (.int ((q.rows.map fun r => (r.things.length : Int)).sum) t) { s with heap := h', toks := tk' }) :
    wpAny (model prog w) (ktrTop dp un gd cn cs L a ccd cl outer) (call (.ref 162) [.ref q.x]) Q E s := by
  have kf : (fun (_ : OpenLaw) (_ : Params → Frag) => True) PySem.Challenge.rw_pc0369_01 hK := by k_fill; trivial
  clear kf
  have hb9 : Base s := ⟨⟩

  refine wpAny_call ?_
  k_dflt ktr_enter
  k_steps
  refine LCg.CompSrc.ledger rfl (by k_asm) (by k_asm) hro ?_ fun g => ?_
  · simp only [List.size_toArray, List.length_map, sizeLine_eq]; omega
  · refine rest_ind (J := fun (i : Nat) (ys : List Value) (nw : List (Addr × Obj)) => nw = news ∧ ys.length = i ∧ IntsAre ys ((q.rows.take i).map fun r => (r.things.length : Int))) ?_ ?_ _ _ _ _ (Nat.zero_add _) ⟨rfl, rfl, by simpa using IntsAre.nil⟩
    · rintro ys nw ⟨rfl, hl, hy⟩
      have e : (q.rows.take ((q.rows.map fun r => Value.ref r.y).toArray.size)) = q.rows := by simp
      rw [e] at hy
      have hl' : ys.length < 100 := by rw [hl]; simpa using hlen
      intro D h tk F2 N2 o2
      k_steps
      exact ret _ _ _ (by k_asm) (cb_drop (by assumption) fun p hp => List.mem_cons_of_mem _ hp)
    · rintro i v ys nw I oI C oC D m₂ h tk E' hi hP ⟨rfl, hl, hy⟩ hC hx' F1 N1 off ne
      have hi' : i < q.rows.length := by simpa using hi
      obtain rfl : v = .ref (q.rows[i]).y := by simpa [hi'] using hP.symm
      have hr := hW _ (List.getElem_mem hi')
      have hrl := hlr _ (List.getElem_mem hi')
      have et : (q.rows.take (i + 1)).map (fun r => (r.things.length : Int)) = (q.rows.take i).map (fun r => (r.things.length : Int)) ++ [((q.rows[i]).things.length : Int)] := by
        rw [List.take_add_one, List.getElem?_eq_getElem hi', List.map_append]; rfl
      rw [et]
      generalize q.rows[i] = r at *
      refine gl fun G9 hG9 => ?_
      obtain ⟨ry, ⟨a1, a2, a3, a4, a5, b1, b2, b3, b4, b5, rd⟩, c9, rt⟩ := hr
      refine hG9 ?_
      clear hG9 G9
      k_steps
      refine LCg.CompEnd.intro (by k_asm) (by k_asm) nw (fun p hp => hp) off (.inr ⟨_, hro, rfl, _, rfl⟩) ⟨rfl, by simp [hl], ?_⟩
      exact IntsAre.append hy (.cons _ _ .nil)
end

theorem ln5 : True := by
  k_with "off6" => skip
  trivial
end Part2
theorem ln6 : True := by
  k_with "my exec Assign cons ListComp" => (k_here; with_reducible refine plainObj_wpAny_Assign_Attribute ?_ ?_; rotate_left; with_unfolding_all rfl)
  k_with "my eval ListComp" => (k_here; first | ((with_reducible show wpAny _ _ (eval (PySem.Expr.ListComp _ [⟨PySem.Expr.Name _ _, _, [], 0⟩] _ _) _) _ _ _); k_dflt (refine LCg.ListComp_U (F₀ := by k_asm) (by with_unfolding_all rfl) (by decide) (by rfl) (by decide) (by rfl) ?_)) | ((with_reducible show wpAny _ _ (eval (PySem.Expr.ListComp _ [⟨PySem.Expr.Name _ _, _, [_], 0⟩] _ _) _) _ _ _); k_dflt (refine LCt.ListComp_T (F₀ := by k_asm) (by with_unfolding_all rfl) (by decide) (by rfl) (by decide) (by rfl) ?_)) | ((with_reducible show wpAny _ _ (eval (PySem.Expr.ListComp _ [⟨PySem.Expr.Tuple _ _ _, _, [], 0⟩] _ _) _) _ _ _); k_dflt (refine' LCp.ListComp_P (F₀ := ?F9q28) ?a9q28 ?b9q28 ?c9q28 ?d9q28 ?e9q28 ?f9q28 ?g9q28 ?_; (case F9q28 => k_asm); (case a9q28 => with_unfolding_all rfl); (case b9q28 => decide); (case c9q28 => rfl); (case d9q28 => decide); (case e9q28 => rfl); (case f9q28 => rfl); (case g9q28 => decide))))
  k_with "my CompSrc" => (k_here; (refine Hold.out ?_))
  k_with "my CompSrcT" => (k_here; (refine Hold.out ?_))
  k_with "my SrcLP" => (k_here; (refine Hold.out ?_))
  k_with "my CompEnd" => (k_here; (refine Hold.out ?_))
  k_with "my call ref" => (k_here; refine hold_ref [162] rfl ?_)
  trivial
section Part3
theorem wo3 : True := by
  w_top off
  trivial
theorem ln7 : True := by
  k_with "my call ref" => ((fail_if_success (k_extra "off11")); (k_here; refine hold_ref [246] rfl ?_))
  trivial
section
variable {prog : Program} {w : World} {p : Program} {loose : List Str} {mean : ExcName → Option Value} {mg mb : Str → Option Value}
    {dp un : Nat} {gd : Option (List Code)} {cn : Str} {cs : Scope} {a : Addr} {ccd : Value} {cl : List (Str × Addr)} {outer : List Env} {A₀ : Around} {base h₀ : Heap} {L : Addr} {m : Str → Option Value} {s : Shared} {Q E : Value → Shared → Prop}
    {news : List (Addr × Obj)}
set_option maxHeartbeats 4000000 in
theorem pick_c {src tl : Addr} {o : Obj} {vs : List Value} {c : Nat} {rest : List (Addr × Obj)}
    (B : Below A₀ base outer h₀) (F : Fr h₀ L s.heap m) (X : (hK w.params).In h₀) (T : Top p loose mean mg mb h₀) (hk : cs.kind = .function) (N : News h₀ L s.heap ((src, o) :: rest)) (hrest : ∀ q ∈ rest, q.1 ≠ src) (hS : SrcOk prog w src o) (hm : (tl, listOf vs.toArray c) ∈ rest)
    (hdp : dp + 9 < recursionLimit) (hun : un + 90 < cLine) (hn : 0 < vs.length) (hn2 : vs.length < 1000)
    (ret : ∀ (v : Value) (h' : Heap) (tk' : Nat) (o' : Obj), v ∈ vs → SrcOk prog w src o' → Fr h₀ L h' m → News h₀ L h' ((src, o') :: rest) → Q v { s with heap := h', toks := tk' }) :
    wpAny (model prog w) (ktrTop dp un gd cn cs L a ccd cl outer) (call (.ref 253) [.ref src, .ref tl]) Q E s := by
  have kf : (fun (_ : OpenLaw) (_ : Params → Frag) => True) PySem.Challenge.rw_pc0369_01 hK := by k_fill; trivial
  clear kf
  have hb9 : Base s := ⟨⟩
  refine wpAny_call ?_
  k_dflt ktr_enter
  k_steps
  refine Hold.mk ?_
  k_dflt (refine' next_u ?k1 ?k2 ?k3 ?k4 ?k5 ?N ?U ?S ?d ?u ?t1 ?t2 ?_; (case k1 => k_asm); (case k2 => k_asm); (case k3 => k_asm); (case k4 => k_asm); (case k5 => first | exact rfl | assumption); (case N => k_asm); (case U => k_updF); (case S => k_asm); (case d => k_room); (case u => k_units); (case t1 => first | decide | omega); (case t2 => first | decide | omega))
  intro r9 t9 h9 tk9 o9 hr9 hs9 S9 F9 N9
  (try dsimp only at N9 ⊢)
  (try k_sweep)
  (try k_fold)
  k_steps
  rename ((_ : Int) < (vs.length : Nat)) => h1
  rename ((0:Int) ≤ _) => h0
  refine my_item (by k_asm) (by k_mem) (List.getElem?_eq_getElem (by omega)) h0 (by omega) ?_
  k_steps
  exact ret _ _ _ _ (List.getElem_mem _) (by k_asm) (by k_asm) (by k_asm)
end

theorem ln8 : True := by
  k_with "off11" => skip
  trivial
end Part3
section Part4
theorem wo4 : True := by
  w_top off
  trivial
theorem pow7 {i : Nat} (h : i ≤ 8) : (7 : Int) ^ i ≤ 7 ^ 8 := (by decide : ∀ j, j < 9 → (7 : Int) ^ j ≤ 7 ^ 8) i (Nat.lt_succ_of_le h)
theorem gcd_fmod {a b : Int} (ha : 0 ≤ a) (hb : 0 < b) : Int.gcd b (a.fmod b) = Int.gcd a b := by
  rw [Int.fmod_eq_emod_of_nonneg _ (by omega)]
  obtain ⟨a, rfl⟩ := Int.eq_ofNat_of_zero_le ha
  obtain ⟨b, rfl⟩ := Int.eq_ofNat_of_zero_le (Int.le_of_lt hb)
  show Nat.gcd b (((a : Int) % (b : Int)).natAbs) = Nat.gcd a b
  rw [← Int.natCast_emod, Int.natAbs_natCast, Nat.gcd_comm a b, Nat.gcd_rec b a, Nat.gcd_comm]
theorem lcm_step {f x a : Int} (hf : 0 < f) (hx : 1 ≤ x) (ha : 0 < a) (hg : Int.gcd a 0 = Int.gcd f x) : 0 < (f * x).fdiv a ∧ (f * x).fdiv a ≤ f * x ∧ (∃ y, (f * x).fdiv a = y * x) ∧ ∃ y, (f * x).fdiv a = y * f := by
  have e : a = (Int.gcd f x : Int) := by
    rw [← hg, Int.gcd_zero_right]; omega
  have d1 : a ∣ f := e ▸ Int.gcd_dvd_left ..
  have d2 : a ∣ x := e ▸ Int.gcd_dvd_right ..
  obtain ⟨y, hy⟩ := d1
  obtain ⟨z, hz⟩ := d2
  rw [Int.fdiv_eq_ediv_of_nonneg _ (by omega)]
  have e1 : f * x / a = y * x := by
    rw [hy, Int.mul_assoc, Int.mul_ediv_cancel_left _ (by omega)]
  have e2 : f * x / a = z * f := by
    rw [hz, ← Int.mul_assoc, Int.mul_comm f a, Int.mul_assoc, Int.mul_ediv_cancel_left _ (by omega), Int.mul_comm]
  have hy0 : 0 < y := by
    rcases Int.lt_or_le 0 y with h | h
    · exact h
    · have := Int.mul_nonpos_of_nonneg_of_nonpos (Int.le_of_lt ha) h; omega
  refine ⟨?_, ?_, ⟨y, e1⟩, ⟨z, e2⟩⟩
  · rw [e1]; exact Int.mul_pos hy0 (by omega)
  · rw [e1]
    refine Int.mul_le_mul_of_nonneg_right ?_ (by omega)
    rw [hy]
    have := Int.mul_le_mul_of_nonneg_right (show (1 : Int) ≤ a by omega) (show 0 ≤ y by omega)
    omega
inductive GInv (news : List (Addr × Obj)) (l : Addr) (ns : List Int) (i : Nat) (m₁ : Str → Option Value) (nx : List (Addr × Obj)) : Prop
  | mk (p0 : nx = news) (p1 : m₁ (Str.ofString "numbers") = some (.ref l)) (f : Int) (t : Tok) (p2 : m₁ (Str.ofString "found") = some (.int f t)) (p3 : 0 < f) (p4 : f ≤ 7 ^ i) (p5 : ∀ x ∈ ns.take i, ∃ y, f = y * x) : GInv news l ns i m₁ nx
inductive GWh (s : Shared) (g1 : Heap) (L1 : Addr) (nx : List (Addr × Obj)) (l : Addr) (f x : Int) (tf tx : Tok) (n : Nat) (s' : Shared) : Prop
  | mk (h : Heap) (tk : Nat) (m₂ : Str → Option Value) (aa bb : Int) (ta tb : Tok) (p0 : s' = { s with heap := h, toks := tk }) (p1 : Fr g1 L1 h m₂) (p2 : News g1 L1 h nx) (p3 : m₂ (Str.ofString "one") = some (.int aa ta)) (p4 : m₂ (Str.ofString "other") = some (.int bb tb))
    (p5 : m₂ (Str.ofString "found") = some (.int f tf)) (p6 : m₂ (Str.ofString "number") = some (.int x tx)) (p7 : m₂ (Str.ofString "numbers") = some (.ref l)) (p8 : 0 < aa) (p9 : 0 ≤ bb) (pa : aa ≤ 7 ^ 8) (pb : bb ≤ 7 ^ 8) (pc : bb.toNat = n) (pd : Int.gcd aa bb = Int.gcd f x) : GWh s g1 L1 nx l f x tf tx n s'
section
variable {prog : Program} {w : World} {p : Program} {loose : List Str} {mean : ExcName → Option Value} {mg mb : Str → Option Value}
    {dp un : Nat} {gd : Option (List Code)} {cn : Str} {cs : Scope} {a : Addr} {ccd : Value} {cl : List (Str × Addr)} {outer : List Env} {A₀ : Around} {base h₀ : Heap} {L : Addr} {m : Str → Option Value} {s : Shared} {Q E : Value → Shared → Prop}
    {news : List (Addr × Obj)}
set_option maxHeartbeats 4000000 in
theorem lcm_c {l : Addr} {vs : List Value} {ns : List Int} {c : Nat}
    (B : Below A₀ base outer h₀) (F : Fr h₀ L s.heap m) (X : (hK w.params).In h₀) (T : Top p loose mean mg mb h₀) (hk : cs.kind = .function) (N : News h₀ L s.heap news) (hm : (l, listOf vs.toArray c) ∈ news) (hi : IntsAre vs ns) (hb : ∀ x ∈ ns, 1 ≤ x ∧ x ≤ 7) (hl : ns.length ≤ 8)
    (hdp : dp + 9 < recursionLimit) (hun : un + 90 < cLine)
    (ret : ∀ (u : Int) (t : Tok) (h' : Heap) (tk' : Nat), 0 < u → u ≤ 7 ^ 8 → (∀ x ∈ ns, ∃ y, u = y * x) → Fr h₀ L h' m → News h₀ L h' news → Q (.int u t) { s with heap := h', toks := tk' }) :
    wpAny (model prog w) (ktrTop dp un gd cn cs L a ccd cl outer) (call (.ref 124) [.ref l]) Q E s := by
  have kf : (fun (_ : OpenLaw) (_ : Params → Frag) => True) PySem.Challenge.rw_pc0369_01 hK := by k_fill; trivial
  clear kf
  have hb9 : Base s := ⟨⟩
  refine wpAny_call ?_
  k_dflt (refine' code_def ?k1 ?k2 ?k3 ?k4 ?k5 ?kA ?kF ?kK ?k6 ?k7 ?k8 ?k9 ?kB ?_ ?c2 ?c3 ?c4 ?c5; (case kA => exact rfl); (case kF => exact rfl); (case kK => assumption); (case k1 => k_asm); (case k2 => k_asm); (case k3 => k_asm); (case k4 => k_asm); (case k5 => k_asm); (case k6 => k_is); (case k7 => k_is); (case k8 => k_room); (case k9 => first | exact BindsTo.of_eq rfl | exact binds_K (by k_in) rfl (by k_is) rfl rfl rfl); (case c5 => decide); (case kB => exact locs rfl); (case c2 => exact rfl); (case c3 => exact rfl); (case c4 => exact rfl); k_whole)
  intro g1 L1 h1 FG1 F1 N1 B1 X1 T1
  (try dsimp only); (try k_lift B1); (try k_fold)
  replace F1 := fr_open F1
  obtain ⟨m1, F1, em1⟩ := F1
  refine letMA ?_
  intro M9 A9
  k_steps
  refine Hold.mk ?_
  rename Fr _ _ _ _ => F1
  rename News _ _ _ _ => N1
  have hlen := IntsAre.length hi
  refine kdl_iter (fun i m₁ nx => GInv news l ns i m₁ nx) rfl hm F1 N1 ⟨(by first | walk_at "look" | exact rfl), (by first | walk_at "look" | exact rfl), _, _, (by first | walk_at "look" | exact rfl), by decide, by decide, by simp⟩ ?_ ?_
  · rintro i v m₁ nx h tk own hv hoff hl1 HH9 F2 N2
    refine gl fun G9 hG9 => ?_
    obtain ⟨rfl, hnu, f, tf, hfo, hf0, hf1, hfd⟩ := HH9
    refine hG9 ?_
    clear hG9 G9
    clear N1 F1
    have hi' : i < vs.length := (List.getElem?_eq_some_iff.mp hv).1
    obtain ⟨x, tx, rfl, hxi⟩ : ∃ x t, v = .int x t ∧ ns[i]? = some x := by
      obtain ⟨t, e⟩ := hi.get i (ns[i]'(by omega)) (List.getElem?_eq_getElem (by omega))
      rw [e] at hv
      exact ⟨_, t, (Option.some.inj hv).symm, List.getElem?_eq_getElem (by omega)⟩
    have hx7 := hb x (List.mem_of_getElem? hxi)
    have F3 := F2
    clear F2
    have hf8 : f ≤ 7 ^ 8 := Int.le_trans hf1 (pow7 (by omega))
    k_steps
    refine Hold.mk ?_
    rename Fr _ _ _ _ => F4
    rename News _ _ _ _ => N4
    refine while_ind (fun n s' => GWh s g1 L1 (nx ++ own) l f x tf tx n s') (by first | passes_own | with_unfolding_all passes_own) ?_ x.toNat _ ⟨_, _, _, f, x, _, _, rfl, F4, cb_drop N4 (by first | exact fun _ h => h | exact fun _ h => List.mem_cons_of_mem _ h), (by first | walk_at "look" | exact rfl), (by first | walk_at "look" | exact rfl), (by first | walk_at "look" | exact rfl), (by first | walk_at "look" | exact rfl), (by first | walk_at "look" | exact rfl), hf0, by omega, ?_, by omega, rfl, rfl⟩
    · rintro n s' HH9
      refine gl fun G9 hG9 => ?_
      obtain ⟨h, tk, m₂, aa, bb, ta, tb, rfl, F5, N5, e1, e2, e3, e4, e5, a0, b0, a8, b8, hn, hg⟩ := HH9
      refine hG9 ?_
      clear hG9 G9
      clear F4 N4
      have F6 := F5
      clear F5
      k_steps
      refine whlIf_both (fun hbt => ?_) (fun hbf => ?_)
      · have hb0 : 0 < bb := of_decide_eq_true hbt
        clear hbt
        k_steps
        rename Fr _ _ _ _ => F7
        rename News _ _ _ _ => N7
        have q1 := fmod_lo aa hb0
        have q2 := fmod_hi aa hb0
        exact ⟨_, by omega, _, _, _, bb, aa.fmod bb, _, _, (by first | walk_at "look" | exact rfl), F7, cb_drop N7 (fun _ h => List.mem_cons_of_mem _ h), (by first | walk_at "look" | exact rfl), (by first | walk_at "look" | exact rfl), (by first | walk_at "look" | exact rfl), (by first | walk_at "look" | exact rfl), (by first | walk_at "look" | exact rfl), hb0, q1, b8, by omega, rfl, (gcd_fmod (by omega) hb0).trans hg⟩
      · have hb0 : bb = 0 := by have := of_decide_eq_false hbf; omega
        subst hb0
        refine gl fun G9 hG9 => ?_
        obtain ⟨s1, s2, s3, s4⟩ := lcm_step hf0 hx7.1 a0 hg
        refine hG9 ?_
        clear hG9 G9
        k_steps
        rename Fr _ _ _ _ => F7
        rename News _ _ _ _ => N7
        refine InvEndG.intro (nx := nx) F7 N7 ⟨hm, (by first | walk_at "look" | exact rfl), (by first | walk_at "look" | exact rfl), _, _, (by first | walk_at "look" | exact rfl), s1, ?_, ?_⟩ hoff (fun p hp => List.mem_append_left _ hp) (fun p hp => List.mem_append_right _ hp)
        · have h7 : f * x ≤ 7 ^ i * 7 := Int.le_trans (Int.mul_le_mul_of_nonneg_left hx7.2 (Int.le_of_lt hf0)) (Int.mul_le_mul_of_nonneg_right hf1 (by decide))
          rw [Int.pow_succ]; omega
        · intro z hz
          rw [List.take_add_one, hxi] at hz
          rcases List.mem_append.mp hz with hz | hz
          · obtain ⟨y, hy⟩ := hfd z hz
            obtain ⟨v, hv⟩ := s4
            exact ⟨v * y, by rw [hv, hy, Int.mul_assoc]⟩
          · obtain rfl : z = x := by simpa using hz
            exact s3
    · exact hf8
  · rintro m₁ nx h tk HH9 F2 N2
    refine gl fun G9 hG9 => ?_
    obtain ⟨rfl, hnu, f, tf, hfo, hf0, hf1, hfd⟩ := HH9
    refine hG9 ?_
    clear hG9 G9
    have F3 := F2
    k_steps
    refine ret _ _ _ _ hf0 (Int.le_trans hf1 (pow7 (by omega))) (fun x hx => hfd x ?_) (by k_asm) (by k_asm)
    rw [List.take_of_length_le (by omega)]; exact hx
end
end Part4
theorem ln9 : True := by
  k_with "my call ref" => (k_here; refine hold_ref [124] rfl ?_)
  trivial
section Part5
theorem wo5 : True := by
  w_top off
  trivial
noncomputable def RowIn (w : World) (news : List (Addr × Obj)) (r : Row) : Prop :=
  RowY w news r ∧ IntL news r.fn r.fins ∧ ∀ x ∈ r.things, TpIn news x.1 x.2.1 x.2.2
noncomputable def WFIn (w : World) (news : List (Addr × Obj)) (q : WFq) : Prop :=
  (q.x, instObj 165 q.dx) ∈ news ∧
  WfAt w news q.dx q.unit q.st q.ro q.fi q.la q.time ∧
  IntL news q.st q.steps ∧
  (∃ c, (q.ro, listOf (q.rows.map fun r => Value.ref r.y).toArray c) ∈ news) ∧
  (∃ c, (q.fi, listOf (q.rows.map fun r => Value.ref r.fn).toArray c) ∈ news) ∧
  IntL news q.la q.last ∧
  ∀ r ∈ q.rows, RowIn w news r
noncomputable def adrR (r : Row) : List Addr := [r.dy, r.y, r.th, r.fn]
noncomputable def adrQ (q : WFq) : List Addr := q.dx :: q.x :: q.st :: q.ro :: q.fi :: q.la :: q.rows.flatMap adrR
theorem ints_snoc {ys : List Value} {ws : List Int} {i : Nat} {f : Int → Int} {x : Int} {t : Tok} (hy : IntsAre ys ((ws.take i).map f)) (hx : ws[i]? = some x) : IntsAre (ys ++ [Value.int (f x) t]) ((ws.take (i + 1)).map f) := by
  rw [List.take_add_one, hx, List.map_append]
  exact IntsAre.append hy (.cons _ _ .nil)
theorem allLt_mem {d : Nat} : ∀ {l : List (Addr × Obj)}, AllLt d l → ∀ p ∈ l, @LT.lt Nat _ p.1 d
  | [], _, _, h => nomatch h
  | q :: r, h, p, hp => by
    rcases List.mem_cons.mp hp with rfl | hp
    · exact h.1
    · exact allLt_mem h.2 p hp
theorem off1_mem {d : Addr} : ∀ {l : List (Addr × Obj)}, LCg.Off1 d l → ∀ p ∈ l, @Ne Nat p.1 d
  | [], _, _, h => nomatch h
  | q :: r, h, p, hp => by
    rcases List.mem_cons.mp hp with rfl | hp
    · exact h.1
    · exact off1_mem h.2 p hp
/-- what the making of the rows keeps -/
noncomputable def RowsJ (w : World) (most moct : Int) (nw0 : List (Addr × Obj)) (i : Nat) (ys : List Value) (nw : List (Addr × Obj)) : Prop :=
  (∀ p ∈ nw0, p ∈ nw) ∧ ∃ rs : List (Addr × Addr × Addr), rs.length = i ∧ ys = rs.map (fun r => Value.ref r.1) ∧ (∀ r ∈ rs, RowY w nw ⟨r.1, r.2.1, r.2.2, 0, most, moct, 0, [], []⟩) ∧
    (rs.flatMap fun r => [r.2.1, r.1, r.2.2]).Pairwise (fun a b : Nat => a < b) ∧ ∀ a ∈ rs.flatMap (fun r => [r.2.1, r.1, r.2.2]), ∀ p ∈ nw0, @LT.lt Nat _ p.1 a
theorem rowsJ_nil {w : World} {most moct : Int} {nw0 : List (Addr × Obj)} : RowsJ w most moct nw0 0 [] nw0 := ⟨fun _ h => h, [], rfl, rfl, by simp, by simp, by simp⟩
theorem RowY.mono {w : World} {nw nw' : List (Addr × Obj)} {r : Row} (h : RowY w nw r) (hs : ∀ p ∈ nw, p ∈ nw') : RowY w nw' r := by
  refine gl fun G9 hG9 => ?_
  obtain ⟨h1, ⟨a1, a2, a3, a4, a5, b1, b2, b3, b4, b5, h2⟩, c, h3⟩ := h
  refine hG9 ?_
  clear hG9 G9
  exact ⟨hs _ h1, ⟨a1, a2, a3, a4, a5, b1, b2, b3, b4, b5, hs _ h2⟩, c, hs _ h3⟩
theorem row_step {w : World} {h₀ h' : Heap} {L I C D x d l : Addr} {m : Str → Option Value} {s₁ : Shared} {oI oC oD : Obj} {S : List (Addr × Obj) → Prop} {tk : Nat} {nw0 nw : List (Addr × Obj)} {most moct : Int} {i : Nat} {ys : List Value} {k1 k2 k3 k4 k5 t1 t2 t3 t4 : Tok} {c : Nat}
    (F : Fr h₀ L h' m) (N : News h₀ L h' ((l, listOf #[] c) :: (x, instObj 106 d) :: (d, dictOf (rowEs w k1 k2 k3 k4 k5 (.int most t1) (.int moct t2) l (.int 0 t3) (.int 0 t4)) 5) :: (I, oI) :: (C, oC) :: (D, oD) :: nw))
    (J : RowsJ w most moct nw0 i ys nw) (off : LCg.Off3 I C D nw) (h1 : @LT.lt Nat _ d x) (hll : @LT.lt Nat _ x l ∧ @LT.lt Nat _ d l ∧ @LT.lt Nat _ I l ∧ @LT.lt Nat _ C l ∧ @LT.lt Nat _ D l ∧ AllLt l nw) (hl0 : @LT.lt Nat _ I d ∧ @LT.lt Nat _ C d ∧ @LT.lt Nat _ D d ∧ AllLt d nw) (hS : ∀ nw', (∀ p ∈ nw, p ∈ nw') → S nw') :
    LCg.CompEnd h₀ L m s₁ I oI C oC D oD S (fun y news' => RowsJ w most moct nw0 (i + 1) (ys ++ [y]) news') (.ref x) { s₁ with heap := h', toks := tk } := by
  refine gl fun G9 hG9 => ?_
  obtain ⟨hsub, rs, e1, e2, e3, e4, e5⟩ := J
  refine hG9 ?_
  clear hG9 G9
  have h2 := hll.1
  refine gl fun G9 hG9 => ?_
  obtain ⟨hI, hC, hD, hal⟩ := hl0
  refine hG9 ?_
  clear hG9 G9
  have hn := allLt_mem hal
  have inn : ∀ a ∈ rs.flatMap (fun r => [r.2.1, r.1, r.2.2]), @LT.lt Nat _ a d := by
    intro a ha
    obtain ⟨r, hr, ha⟩ := List.mem_flatMap.mp ha
    refine gl fun G9 hG9 => ?_
    obtain ⟨q1, ⟨a1, a2, a3, a4, a5, b1, b2, b3, b4, b5, q2⟩, c, q3⟩ := e3 r hr
    refine hG9 ?_
    clear hG9 G9
    simp only [List.mem_cons, List.not_mem_nil, or_false] at ha
    rcases ha with rfl | rfl | rfl
    · exact hn _ q2
    · exact hn _ q1
    · exact hn _ q3
  have sub : ∀ p ∈ nw, p ∈ (l, listOf #[] c) :: (x, instObj 106 d) :: (d, dictOf (rowEs w k1 k2 k3 k4 k5 (.int most t1) (.int moct t2) l (.int 0 t3) (.int 0 t4)) 5) :: nw := fun p hp => by simp [hp]
  refine LCg.CompEnd.intro F N ((l, listOf #[] c) :: (x, instObj 106 d) :: (d, dictOf (rowEs w k1 k2 k3 k4 k5 (.int most t1) (.int moct t2) l (.int 0 t3) (.int 0 t4)) 5) :: nw) ?_ ?_ (hS _ sub) ?_
  · intro p hp
    simp only [List.mem_cons] at hp ⊢
    rcases hp with h | h | h | h | h | h | h <;> simp [h]
  · have g1 : (@Ne Nat l I) ∧ (@Ne Nat l C) ∧ (@Ne Nat l D) := by omega
    have g2 : (@Ne Nat x I) ∧ (@Ne Nat x C) ∧ (@Ne Nat x D) := by omega
    have g3 : (@Ne Nat d I) ∧ (@Ne Nat d C) ∧ (@Ne Nat d D) := by omega
    exact ⟨g1, g2, g3, off⟩
  · refine ⟨fun p hp => sub p (hsub p hp), rs ++ [(x, d, l)], by simp [e1], by simp [e2], ?_, ?_, ?_⟩
    · intro r hr
      rcases List.mem_append.mp hr with hr | hr
      · exact (e3 r hr).mono sub
      · obtain rfl := List.mem_singleton.mp hr
        exact ⟨by simp, ⟨k1, k2, k3, k4, k5, t1, t2, t3, 0, t4, by simp⟩, c, by simp [thRefs]⟩
    · rw [List.flatMap_append, List.pairwise_append]
      refine ⟨e4, ?_, ?_⟩
      · simp only [List.flatMap_cons, List.flatMap_nil, List.append_nil, List.pairwise_cons, List.mem_cons, List.not_mem_nil, or_false, List.Pairwise.nil, and_true]
        refine ⟨fun a ha => ?_, fun a ha => ?_, fun a ha => nomatch ha⟩
        · rcases ha with rfl | rfl
          · exact h1
          · exact Nat.lt_trans h1 h2
        · subst ha; exact h2
      · intro a ha b hb
        have := inn a ha
        simp only [List.flatMap_cons, List.flatMap_nil, List.append_nil, List.mem_cons, List.not_mem_nil, or_false] at hb
        rcases hb with rfl | rfl | rfl <;> omega
    · intro a ha p hp
      rw [List.flatMap_append] at ha
      rcases List.mem_append.mp ha with ha | ha
      · exact e5 a ha p hp
      · have := hn p (hsub p hp)
        simp only [List.flatMap_cons, List.flatMap_nil, List.append_nil, List.mem_cons, List.not_mem_nil, or_false] at ha
        rcases ha with rfl | rfl | rfl <;> omega
/-- the ledger behind the making of the rows: one object of the old part is taken out, to be turned -/
theorem take_out {h₀ h : Heap} {L : Addr} {D d : Addr} {oD od : Obj} {nw : List (Addr × Obj)} (N : News h₀ L h ((D, oD) :: nw)) (hd : (d, od) ∈ nw) : News h₀ L h ((D, oD) :: (d, od) :: nw.filter (fun p => decide (p.1 ≠ d))) := fun p hp => by
  rcases List.mem_cons.mp hp with rfl | hp
  · exact N _ (by simp)
  · rcases List.mem_cons.mp hp with rfl | hp
    · exact N _ (by simp [hd])
    · exact N _ (List.mem_cons_of_mem _ ((List.mem_filter.mp hp).1))
theorem take_out_ne {d : Addr} {nw : List (Addr × Obj)} : ∀ p ∈ nw.filter (fun p => decide (p.1 ≠ d)), p.1 ≠ d := fun p hp => by simpa using (List.mem_filter.mp hp).2
theorem take_out_in {d : Addr} {nw : List (Addr × Obj)} {p : Addr × Obj} (h : p ∈ nw) (e : p.1 ≠ d) : p ∈ nw.filter (fun p => decide (p.1 ≠ d)) := List.mem_filter.mpr ⟨h, by simpa using e⟩
theorem RowsJ.out {w : World} {most moct : Int} {nw0 : List (Addr × Obj)} {i : Nat} {ys : List Value} {nw : List (Addr × Obj)} {d : Addr} {od : Obj} (J : RowsJ w most moct nw0 i ys nw) (hd : (d, od) ∈ nw0) :
    ∃ rs : List (Addr × Addr × Addr), rs.length = i ∧ ys = rs.map (fun r => Value.ref r.1) ∧ (∀ r ∈ rs, RowY w (nw.filter (fun p => decide (p.1 ≠ d))) ⟨r.1, r.2.1, r.2.2, 0, most, moct, 0, [], []⟩) ∧
    (rs.flatMap fun r => [r.2.1, r.1, r.2.2]).Pairwise (fun a b : Nat => a < b) ∧ (∀ a ∈ rs.flatMap (fun r => [r.2.1, r.1, r.2.2]), ∀ p ∈ nw0, @LT.lt Nat _ p.1 a) := by
  refine gl fun G9 hG9 => ?_
  obtain ⟨hsub, rs, e1, e2, e3, e4, e5⟩ := J
  refine hG9 ?_
  clear hG9 G9
  refine ⟨rs, e1, e2, fun r hr => ?_, e4, e5⟩
  refine gl fun G9 hG9 => ?_
  obtain ⟨q1, ⟨a1, a2, a3, a4, a5, b1, b2, b3, b4, b5, q2⟩, c, q3⟩ := e3 r hr
  refine hG9 ?_
  clear hG9 G9
  have n1 := e5 r.1 (List.mem_flatMap.mpr ⟨r, hr, by simp⟩) _ hd
  have n2 := e5 r.2.1 (List.mem_flatMap.mpr ⟨r, hr, by simp⟩) _ hd
  have n3 := e5 r.2.2 (List.mem_flatMap.mpr ⟨r, hr, by simp⟩) _ hd
  exact ⟨take_out_in q1 (Nat.ne_of_gt n1), ⟨a1, a2, a3, a4, a5, b1, b2, b3, b4, b5, take_out_in q2 (Nat.ne_of_gt n2)⟩, c, take_out_in q3 (Nat.ne_of_gt n3)⟩
noncomputable def FinsJ (nw0 : List (Addr × Obj)) (i : Nat) (ys : List Value) (nw : List (Addr × Obj)) : Prop :=
  (∀ p ∈ nw0, p ∈ nw) ∧ ∃ fs : List Addr, fs.length = i ∧ ys = fs.map (fun r => Value.ref r) ∧ (∀ r ∈ fs, ∃ c, (r, listOf #[] c) ∈ nw) ∧ fs.Pairwise (fun a b : Nat => a < b) ∧ ∀ a ∈ fs, ∀ p ∈ nw0, @LT.lt Nat _ p.1 a
theorem finsJ_nil {nw0 : List (Addr × Obj)} : FinsJ nw0 0 [] nw0 := ⟨fun _ h => h, [], rfl, rfl, by simp, by simp, by simp⟩
theorem fins_step {h₀ h' : Heap} {L I C D l : Addr} {m : Str → Option Value} {s₁ : Shared} {oI oC oD : Obj} {S : List (Addr × Obj) → Prop} {tk : Nat} {nw0 nw : List (Addr × Obj)} {i : Nat} {ys : List Value} {c : Nat}
    (F : Fr h₀ L h' m) (N : News h₀ L h' ((l, listOf #[] c) :: (I, oI) :: (C, oC) :: (D, oD) :: nw)) (J : FinsJ nw0 i ys nw) (off : LCg.Off3 I C D nw) (hl0 : @LT.lt Nat _ I l ∧ @LT.lt Nat _ C l ∧ @LT.lt Nat _ D l ∧ AllLt l nw) (hS : ∀ nw', (∀ p ∈ nw, p ∈ nw') → S nw') :
    LCg.CompEnd h₀ L m s₁ I oI C oC D oD S (fun y news' => FinsJ nw0 (i + 1) (ys ++ [y]) news') (.ref l) { s₁ with heap := h', toks := tk } := by
  refine gl fun G9 hG9 => ?_
  obtain ⟨hsub, fs, e1, e2, e3, e4, e5⟩ := J
  refine hG9 ?_
  clear hG9 G9
  refine gl fun G9 hG9 => ?_
  obtain ⟨hI, hC, hD, hal⟩ := hl0
  refine hG9 ?_
  clear hG9 G9
  have hn := allLt_mem hal
  have sub : ∀ p ∈ nw, p ∈ (l, listOf #[] c) :: nw := fun p hp => by simp [hp]
  refine LCg.CompEnd.intro F N ((l, listOf #[] c) :: nw) ?_ ?_ (hS _ sub) ?_
  · intro p hp
    simp only [List.mem_cons] at hp ⊢
    rcases hp with h | h | h | h | h <;> simp [h]
  · have g1 : (@Ne Nat l I) ∧ (@Ne Nat l C) ∧ (@Ne Nat l D) := by omega
    exact ⟨g1, off⟩
  · refine ⟨fun p hp => sub p (hsub p hp), fs ++ [l], by simp [e1], by simp [e2], ?_, ?_, ?_⟩
    · intro r hr
      rcases List.mem_append.mp hr with hr | hr
      · obtain ⟨c, hc⟩ := e3 r hr
        exact ⟨c, sub _ hc⟩
      · obtain rfl := List.mem_singleton.mp hr
        exact ⟨c, by simp⟩
    · rw [List.pairwise_append]
      refine ⟨e4, by simp, fun a ha b hb => ?_⟩
      obtain rfl := List.mem_singleton.mp hb
      obtain ⟨c, hc⟩ := e3 a ha
      exact hn _ hc
    · intro a ha p hp
      rcases List.mem_append.mp ha with ha | ha
      · exact e5 a ha p hp
      · obtain rfl := List.mem_singleton.mp ha
        exact hn p (hsub p hp)
theorem FinsJ.out {nw0 : List (Addr × Obj)} {i : Nat} {ys : List Value} {nw : List (Addr × Obj)} {d : Addr} {od : Obj} (J : FinsJ nw0 i ys nw) (hd : (d, od) ∈ nw0) :
    ∃ fs : List Addr, fs.length = i ∧ ys = fs.map (fun r => Value.ref r) ∧ (∀ r ∈ fs, ∃ c, (r, listOf #[] c) ∈ nw.filter (fun p => decide (p.1 ≠ d))) ∧ fs.Pairwise (fun a b : Nat => a < b) ∧ ∀ a ∈ fs, ∀ p ∈ nw0, @LT.lt Nat _ p.1 a := by
  refine gl fun G9 hG9 => ?_
  obtain ⟨hsub, fs, e1, e2, e3, e4, e5⟩ := J
  refine hG9 ?_
  clear hG9 G9
  refine ⟨fs, e1, e2, fun r hr => ?_, e4, e5⟩
  obtain ⟨c, hc⟩ := e3 r hr
  exact ⟨c, take_out_in hc (Nat.ne_of_gt (e5 r hr _ hd))⟩
theorem rows_in {w : World} {most moct : Int} {rest : List (Addr × Obj)} {rs : List (Addr × Addr × Addr)} (mrs : ∀ r ∈ rs, RowY w rest ⟨r.1, r.2.1, r.2.2, 0, most, moct, 0, [], []⟩) : ∀ a ∈ rs.flatMap (fun r => [r.2.1, r.1, r.2.2]), ∃ o, (a, o) ∈ rest := by
  intro a ha
  obtain ⟨r, hr, ha⟩ := List.mem_flatMap.mp ha
  refine gl fun G9 hG9 => ?_
  obtain ⟨q1, ⟨a1, a2, a3, a4, a5, b1, b2, b3, b4, b5, q2⟩, c, q3⟩ := mrs r hr
  refine hG9 ?_
  clear hG9 G9
  simp only [List.mem_cons, List.not_mem_nil, or_false] at ha
  rcases ha with rfl | rfl | rfl
  · exact ⟨_, q2⟩
  · exact ⟨_, q1⟩
  · exact ⟨_, q3⟩
noncomputable def mkRow (most moct : Int) (p : (Addr × Addr × Addr) × Addr) : Row := ⟨p.1.1, p.1.2.1, p.1.2.2, p.2, most, moct, 0, [], []⟩
noncomputable def newQ (x dx st ro fi la : Addr) (u : Int) (ws : List Int) (most moct : Int) (rs : List (Addr × Addr × Addr)) (fs : List Addr) : WFq :=
  ⟨x, dx, st, ro, fi, la, u, 0, ws.map fun z => u.fdiv z, List.replicate ws.length 0, (rs.zip fs).map (mkRow most moct)⟩
theorem map_zip_fst {α β γ : Type} (f : α → γ) : ∀ {rs : List α} {fs : List β}, rs.length = fs.length → (rs.zip fs).map (fun p => f p.1) = rs.map f
  | [], [], _ => rfl
  | a :: rs, b :: fs, h => by simp [map_zip_fst f (rs := rs) (fs := fs) (by simpa using h)]
theorem map_zip_snd {α β γ : Type} (f : β → γ) : ∀ {rs : List α} {fs : List β}, rs.length = fs.length → (rs.zip fs).map (fun p => f p.2) = fs.map f
  | [], [], _ => rfl
  | a :: rs, b :: fs, h => by simp [map_zip_snd f (rs := rs) (fs := fs) (by simpa using h)]
theorem nodup_adr {dx x st ro fi la : Nat} {R F : List Nat} (lx : dx < x) (s1 : x ≠ st) (s2 : dx ≠ st) (r1 : dx ≠ ro) (r2 : x ≠ ro) (r3 : st ≠ ro) (hdl : dx < la) (xla : x < la) (sla : st < la) (rla : ro < la) (xfi : x ≠ fi) (sfi : st ≠ fi) (rfi : ro ≠ fi) (fla : fi < la) (ndf : dx ≠ fi)
    (g1 : R.Nodup) (g2 : F.Nodup) (lrs : ∀ a ∈ R, dx < a ∧ x < a ∧ st < a) (lfs : ∀ a ∈ F, dx < a ∧ x < a ∧ st < a ∧ ro < a) (nrs : ∀ a ∈ R, a ≠ ro) (rsla : ∀ a ∈ R, a < la ∧ a ≠ fi) (fsla : ∀ a ∈ F, a < la ∧ a ≠ fi) (key : ∀ a b : Nat, a ∈ F → b ∈ R → b < a) :
    (dx :: x :: st :: (R ++ ro :: (F ++ [fi, la]))).Nodup := by
  simp only [List.nodup_cons, List.nodup_append, List.mem_cons, List.mem_append, List.not_mem_nil, or_false, not_or, List.nodup_nil, not_false_eq_true, and_true]
  refine ⟨⟨by omega, by omega, fun h => ?_, by omega, fun h => ?_, by omega, by omega⟩, ⟨by omega, fun h => ?_, by omega, fun h => ?_, by omega, by omega⟩, ⟨fun h => ?_, by omega, fun h => ?_, by omega, by omega⟩, g1, ⟨⟨fun h => ?_, by omega, by omega⟩, g2, by omega, ?_⟩, ?_⟩
  · have := (lrs dx h); omega
  · have := (lfs dx h); omega
  · have := (lrs x h); omega
  · have := (lfs x h); omega
  · have := (lrs st h); omega
  · have := (lfs st h); omega
  · have := (lfs ro h); omega
  · intro a ha b hb
    have := fsla a ha
    rcases hb with rfl | rfl <;> omega
  · intro a ha b hb
    have z1 := rsla a ha
    have z2 := nrs a ha
    rcases hb with rfl | hb | rfl | rfl
    · exact z2
    · have := key b a hb ha; omega
    · exact z1.2
    · omega
theorem perm_rows (most moct : Int) : ∀ {rs : List (Addr × Addr × Addr)} {fs : List Addr}, rs.length = fs.length → (((rs.zip fs).map (mkRow most moct)).flatMap adrR).Perm (rs.flatMap (fun r => [r.2.1, r.1, r.2.2]) ++ fs)
  | [], [], _ => .nil
  | a :: rs, b :: fs, h => by
    have ih := perm_rows most moct (rs := rs) (fs := fs) (by simpa using h)
    show ([a.2.1, a.1, a.2.2, b] ++ ((rs.zip fs).map (mkRow most moct)).flatMap adrR).Perm (([a.2.1, a.1, a.2.2] ++ rs.flatMap (fun r => [r.2.1, r.1, r.2.2])) ++ b :: fs)
    refine (List.Perm.append_left [a.2.1, a.1, a.2.2] ?_ : ([a.2.1, a.1, a.2.2] ++ (b :: ((rs.zip fs).map (mkRow most moct)).flatMap adrR)).Perm ([a.2.1, a.1, a.2.2] ++ (rs.flatMap (fun r => [r.2.1, r.1, r.2.2]) ++ b :: fs))).trans (by simp)
    exact ((List.Perm.cons b ih).trans List.perm_middle.symm)
theorem init_fin {w : World} {h₀ h' : Heap} {L x dx st ro fi la l0 : Addr} {o0 : Obj} {m : Str → Option Value} {s : Shared} {Q : Value → Shared → Prop} {news rest : List (Addr × Obj)} {u most moct : Int} {ws : List Int} {sv yv fv lv : List Value} {k1 k2 k3 k4 k5 k6 t1 t2 : Tok} {c : Nat} {tk : Nat} {rs : List (Addr × Addr × Addr)} {fs : List Addr} {n : Nat}
    (F : Fr h₀ L h' m) (N : News h₀ L h' ((la, listOf lv.toArray c) :: (l0, o0) :: (fi, LCg.lst fv) :: (dx, dictOf (wfEs w k1 k2 k3 k4 k5 k6 (.int u t1) st ro fi la (.int 0 t2)) 6) :: rest))
    (hla : @LT.lt Nat _ l0 la ∧ @LT.lt Nat _ fi la ∧ @LT.lt Nat _ dx la ∧ AllLt la rest)
    (hu0 : 0 < u) (hu8 : u ≤ 7 ^ 8) (hud : ∀ x ∈ ws, ∃ y, u = y * x)
    (hsv : IntsAre sv (ws.map fun z => u.fdiv z)) (hlv' : IntsAre lv (List.replicate n 0)) (erl : rs.length = n) (efl : fs.length = n) (en : n = ws.length) (eyv : yv = rs.map fun r => Value.ref r.1) (efv : fv = fs.map fun r => Value.ref r)
    (mx : (x, instObj 165 dx) ∈ rest) (mst : (st, LCg.lst sv) ∈ rest) (mro : (ro, LCg.lst yv) ∈ rest) (mrs : ∀ r ∈ rs, RowY w rest ⟨r.1, r.2.1, r.2.2, 0, most, moct, 0, [], []⟩) (mfs : ∀ f ∈ fs, ∃ c, (f, listOf #[] c) ∈ rest)
    (mn : ∀ p ∈ news, p ∈ rest) (e1 : ∀ p ∈ rest, @Ne Nat p.1 dx) (nfi : ∀ p ∈ rest, @Ne Nat p.1 fi) (ndf : @Ne Nat dx fi) (ldx : ∀ p ∈ news, @LT.lt Nat _ p.1 dx) (lx : @LT.lt Nat _ dx x) (nst : @Ne Nat x st ∧ @Ne Nat dx st ∧ LCg.Off1 st news)
    (prs : (rs.flatMap fun r => [r.2.1, r.1, r.2.2]).Pairwise (fun a b : Nat => a < b)) (lrs : ∀ a ∈ rs.flatMap (fun r => [r.2.1, r.1, r.2.2]), (@LT.lt Nat _ dx a ∧ @LT.lt Nat _ x a ∧ @LT.lt Nat _ st a) ∧ ∀ p ∈ news, @LT.lt Nat _ p.1 a)
    (nro : @Ne Nat dx ro ∧ @Ne Nat x ro ∧ @Ne Nat st ro) (nron : ∀ p ∈ news, @Ne Nat p.1 ro) (nrs : ∀ a ∈ rs.flatMap (fun r => [r.2.1, r.1, r.2.2]), @Ne Nat a ro)
    (pfs : fs.Pairwise (fun a b : Nat => a < b)) (lfs : ∀ a ∈ fs, (@LT.lt Nat _ dx a ∧ @LT.lt Nat _ x a ∧ @LT.lt Nat _ st a ∧ @LT.lt Nat _ ro a) ∧ (∀ p ∈ news, @LT.lt Nat _ p.1 a) ∧ ∀ b ∈ rs.flatMap (fun r => [r.2.1, r.1, r.2.2]), @LT.lt Nat _ b a)
    (ret : ∀ (q : WFq) h' tk' news', 0 < q.unit → q.unit ≤ 7 ^ 8 → (∀ x ∈ ws, ∃ y, q.unit = y * x) → q.time = 0 → q.steps = ws.map (fun z => q.unit.fdiv z) → q.last = List.replicate ws.length 0 → q.rows.length = ws.length →
      (∀ r ∈ q.rows, r.most = most ∧ r.moct = moct ∧ r.octs = 0 ∧ r.things = [] ∧ r.fins = []) → WFIn w news' q → (adrQ q).Nodup → (∀ a ∈ adrQ q, ∀ p ∈ news, @Ne Nat p.1 a) → (∀ p ∈ news, p ∈ news') → Fr h₀ L h' m → News h₀ L h' news' → Q (.ref q.x) { s with heap := h', toks := tk' }) :
    Q (.ref x) { s with heap := h', toks := tk } := by
  have hlv : IntsAre lv (List.replicate ws.length 0) := en ▸ hlv'
  have hlen : rs.length = fs.length := by omega
  have hpm := perm_rows most moct hlen
  have hal := allLt_mem hla.2.2.2
  have inrest : ∀ a ∈ rs.flatMap (fun r => [r.2.1, r.1, r.2.2]), ∃ o, (a, o) ∈ rest := by
    intro a ha
    obtain ⟨r, hr, ha⟩ := List.mem_flatMap.mp ha
    refine gl fun G9 hG9 => ?_
    obtain ⟨q1, ⟨a1, a2, a3, a4, a5, b1, b2, b3, b4, b5, q2⟩, c, q3⟩ := mrs r hr
    refine hG9 ?_
    clear hG9 G9
    simp only [List.mem_cons, List.not_mem_nil, or_false] at ha
    rcases ha with rfl | rfl | rfl
    · exact ⟨_, q2⟩
    · exact ⟨_, q1⟩
    · exact ⟨_, q3⟩
  refine ret (newQ x dx st ro fi la u ws most moct rs fs) h' tk _ hu0 hu8 hud rfl rfl rfl ?_ ?_ ?_ ?_ ?_ ?_ F N
  · simp only [newQ, List.length_map, List.length_zip]; omega
  · intro r hr
    obtain ⟨p, hp, rfl⟩ := List.mem_map.mp hr
    exact ⟨rfl, rfl, rfl, rfl, rfl⟩
  · refine ⟨by simp [newQ, mx], ⟨k1, k2, k3, k4, k5, k6, t1, t2, by simp [newQ]⟩, ⟨sv.length, sv, List.mem_cons_of_mem _ (List.mem_cons_of_mem _ (List.mem_cons_of_mem _ (List.mem_cons_of_mem _ mst))), hsv⟩, ⟨yv.length, ?_⟩, ⟨fv.length, ?_⟩, ⟨c, lv, by simp [newQ], hlv⟩, ?_⟩
    · have : ((rs.zip fs).map (mkRow most moct)).map (fun r => Value.ref r.y) = yv := by
        rw [eyv, List.map_map]; exact map_zip_fst (fun r : Addr × Addr × Addr => Value.ref r.1) hlen
      simp only [newQ, this]
      exact List.mem_cons_of_mem _ (List.mem_cons_of_mem _ (List.mem_cons_of_mem _ (List.mem_cons_of_mem _ mro)))
    · have : ((rs.zip fs).map (mkRow most moct)).map (fun r => Value.ref r.fn) = fv := by
        rw [efv, List.map_map]; exact map_zip_snd (fun r : Addr => Value.ref r) hlen
      simp only [newQ, this]
      exact List.mem_cons_of_mem _ (List.mem_cons_of_mem _ (.head _))
    · intro r hr
      obtain ⟨p, hp, rfl⟩ := List.mem_map.mp hr
      have sub : ∀ z ∈ rest, z ∈ (la, listOf lv.toArray c) :: (l0, o0) :: (fi, LCg.lst fv) :: (dx, dictOf (wfEs w k1 k2 k3 k4 k5 k6 (.int u t1) st ro fi la (.int 0 t2)) 6) :: rest := fun z hz => by simp [hz]
      obtain ⟨c, hc⟩ := mfs p.2 (List.of_mem_zip hp).2
      exact ⟨(mrs p.1 (List.of_mem_zip hp).1).mono sub, ⟨c, [], sub _ hc, .nil⟩, fun _ h => nomatch h⟩
  · show (dx :: x :: st :: ro :: fi :: la :: ((rs.zip fs).map (mkRow most moct)).flatMap adrR).Nodup
    have g1 : (rs.flatMap fun r => [r.2.1, r.1, r.2.2]).Nodup := prs.imp fun h => Nat.ne_of_lt h
    have g2 : fs.Nodup := pfs.imp fun h => Nat.ne_of_lt h
    have hdl : @LT.lt Nat _ dx la := hla.2.2.1
    have xla : @LT.lt Nat _ x la := hal _ mx
    have sla : @LT.lt Nat _ st la := hal _ mst
    have rla : @LT.lt Nat _ ro la := hal _ mro
    have xfi := nfi _ mx
    have sfi := nfi _ mst
    have rfi := nfi _ mro
    have fla := hla.2.1
    obtain ⟨s1, s2, _⟩ := nst
    obtain ⟨r1, r2, r3⟩ := nro
    have rsla : ∀ a ∈ rs.flatMap (fun r => [r.2.1, r.1, r.2.2]), @LT.lt Nat _ a la ∧ @Ne Nat a fi := fun a ha => by
      obtain ⟨o, ho⟩ := inrest a ha; exact ⟨hal _ ho, nfi _ ho⟩
    have fsla : ∀ a ∈ fs, @LT.lt Nat _ a la ∧ @Ne Nat a fi := fun a ha => by
      obtain ⟨c, ho⟩ := mfs a ha; exact ⟨hal _ ho, nfi _ ho⟩
    have key : ∀ a b : Nat, a ∈ fs → b ∈ rs.flatMap (fun r => [r.2.1, r.1, r.2.2]) → b < a := fun a b ha hb => (lfs a ha).2.2 b hb
    refine List.Perm.nodup ?_ (nodup_adr lx s1 s2 r1 r2 r3 hdl xla sla rla xfi sfi rfi fla ndf g1 g2 (fun a ha => (lrs a ha).1) (fun a ha => (lfs a ha).1) nrs rsla fsla key)
    refine List.Perm.cons _ (List.Perm.cons _ (List.Perm.cons _ ?_))
    refine List.perm_middle.trans (List.Perm.cons ro ?_)
    rw [← List.append_assoc]
    refine List.perm_append_comm.trans ?_
    exact List.Perm.cons fi (List.Perm.cons la hpm.symm)
  · show ∀ a ∈ (dx :: x :: st :: ro :: fi :: la :: ((rs.zip fs).map (mkRow most moct)).flatMap adrR), _
    intro a ha p hp
    have h1 := ldx p hp
    simp only [List.mem_cons, hpm.mem_iff, List.mem_append] at ha
    rcases ha with rfl | rfl | rfl | rfl | rfl | rfl | ha | ha
    · omega
    · omega
    · exact off1_mem nst.2.2 p hp
    · exact nron p hp
    · exact nfi p (mn p hp)
    · exact Nat.ne_of_lt (hal p (mn p hp))
    · exact Nat.ne_of_lt ((lrs a ha).2 p hp)
    · exact Nat.ne_of_lt ((lfs a ha).2.1 p hp)
  · intro p hp; simp [mn p hp]
section
variable {prog : Program} {w : World} {p : Program} {loose : List Str} {mean : ExcName → Option Value} {mg mb : Str → Option Value}
    {dp un : Nat} {gd : Option (List Code)} {cn : Str} {cs : Scope} {a : Addr} {ccd : Value} {cl : List (Str × Addr)} {outer : List Env} {A₀ : Around} {base h₀ : Heap} {L : Addr} {m : Str → Option Value} {s : Shared} {Q E : Value → Shared → Prop}
    {news : List (Addr × Obj)}
set_option maxHeartbeats 8000000 in
theorem init_c {wl ll : Addr} {wv lv : List Value} {ws : List Int} {c1 c2 : Nat} {most moct : Int}
    (B : Below A₀ base outer h₀) (F : Fr h₀ L s.heap m) (X : (hK w.params).In h₀) (T : Top p loose mean mg mb h₀) (hk : cs.kind = .function) (N : News h₀ L s.heap news) (hw : (wl, listOf wv.toArray c1) ∈ news) (hll : (ll, listOf lv.toArray c2) ∈ news) (hi : IntsAre wv ws) (hb : ∀ x ∈ ws, 1 ≤ x ∧ x ≤ 7) (hl : ws.length ≤ 8) (hl0 : 0 < wv.length)
    (hlim : ∀ v ∈ lv, ∃ ta u1 u2 n, v = .ref ta ∧ (ta, tupO [.int most u1, .int moct u2] n) ∈ news) (hleq : lv.length = wv.length) (hm1 : 1 ≤ most) (hm2 : 1 ≤ moct)
    (hdp : dp + 20 < recursionLimit) (hun : un + 200 < cLine)
    (ret : ∀ (q : WFq) h' tk' news', 0 < q.unit → q.unit ≤ 7 ^ 8 → (∀ x ∈ ws, ∃ y, q.unit = y * x) → q.time = 0 → q.steps = ws.map (fun z => q.unit.fdiv z) → q.last = List.replicate ws.length 0 → q.rows.length = ws.length →
      (∀ r ∈ q.rows, r.most = most ∧ r.moct = moct ∧ r.octs = 0 ∧ r.things = [] ∧ r.fins = []) → WFIn w news' q → (adrQ q).Nodup → (∀ a ∈ adrQ q, ∀ p ∈ news, @Ne Nat p.1 a) → (∀ p ∈ news, p ∈ news') → Fr h₀ L h' m → News h₀ L h' news' → Q (.ref q.x) { s with heap := h', toks := tk' }) :
    wpAny (model prog w) (ktrTop dp un gd cn cs L a ccd cl outer) (call (.ref 165) [.ref wl, .ref ll]) Q E s := by
  have kf : (fun (_ : OpenLaw) (_ : Params → Frag) => True) PySem.Challenge.rw_pc0369_01 hK := by k_fill; trivial
  clear kf
  have hb9 : Base s := ⟨⟩
  have hwl : wv.length = ws.length := IntsAre.length hi
  have hlw : wv.length ≤ 8 := by omega
  have hlv : lv.length ≤ 8 := by omega
  have hwe : wv.isEmpty = false := by cases wv with
    | nil => exact absurd hl0 (Nat.lt_irrefl _)
    | cons v r => rfl
  k_dflt (refine' call_cls ?k1 ?k2 ?k3 ?k4 ?k5 ?k6 ?_; (case k1 => k_asm); (case k2 => k_asm); (case k3 => k_asm); (case k4 => k_is); (case k5 => k_is); (case k6 => k_is); k_whole)
  intro x dx h1 F1 N1 l1 l2
  k_lt2 l2
  have l1' := l1
  (try k_lt l1)
  k_dflt (refine' code_defC ?k1 ?k2 ?k3 ?k4 ?k5 ?kA ?kF ?kK ?k6 ?k7 ?k8 ?k9 ?kB ?kD ?_ ?c2 ?c3 ?c4; (case kA => exact rfl); (case kF => exact rfl); (case kK => first | exact rfl | assumption); (case k1 => k_asm); (case k2 => k_asm); (case k3 => k_asm); (case k4 => k_asm); (case k5 => k_asm); (case k6 => k_is); (case k7 => k_is); (case k8 => k_room); (case k9 => exact BindsTo.of_eq rfl); (case kB => exact rfl); (case kD => decide +kernel); (case c2 => exact rfl); (case c3 => exact rfl); (case c4 => exact rfl); k_whole)
  intro g1 L1 h2 tk1 cells FG1 F2 N2 Y1 B1 X1 T1 l3
  (try k_lt l3)
  have hY := CellsAre.one Y1
  obtain ⟨oc, hE, dc⟩ := hY
  subst hE
  clear Y1
  simp only [List.cons_append, List.nil_append] at N2
  (try dsimp only)
  (try k_fold)
  refine letMA ?_
  intro M9 A9
  k_steps
  refine Hold.mk ?_
  k_dflt (refine' lcm_c ?k1 ?k2 ?k3 ?k4 ?k5 ?N ?m ?i ?b ?l ?d ?u ?_; (case k1 => k_asm); (case k2 => k_asm); (case k3 => k_asm); (case k4 => k_asm); (case k5 => first | exact rfl | assumption); (case N => k_asm); (case m => k_mem); (case i => assumption); (case b => assumption); (case l => assumption); (case d => k_room); (case u => k_units))
  intro u tu hu1 tku hu0 hu8 hud F8 N8
  (try dsimp only at N8 ⊢)
  (try k_fold)
  k_steps
  -- the steps
  refine Hold.mk (LCg.CompSrc.ledger rfl (by k_asm) (by k_asm) (by k_mem) (by simp only [List.size_toArray, sizeLine_eq]; omega) fun g => ?_)
  refine rest_start (fun nw0 i ys nw => nw = nw0 ∧ ys.length = i ∧ IntsAre ys ((ws.take i).map fun z => Int.fdiv u z)) ⟨rfl, rfl, by simpa using IntsAre.nil⟩ ?_ ?_
  rotate_left
  · rintro i v ys nw I oI C oC D m₂ h tk E' hi1 hP ⟨rfl, hl9, hy⟩ hC hx' F9 N9 off ne
    have hi' : i < wv.length := by simpa using hi1
    obtain ⟨x, tx, rfl, hxi⟩ : ∃ x t, v = .int x t ∧ ws[i]? = some x := by
      obtain ⟨t, e⟩ := hi.get i (ws[i]'(by omega)) (List.getElem?_eq_getElem (by omega))
      have hP' : wv[i]? = some v := by simpa using hP
      rw [e] at hP'
      exact ⟨_, t, (Option.some.inj hP').symm, List.getElem?_eq_getElem (by omega)⟩
    have hx7 := hb x (List.mem_of_getElem? hxi)
    have hxn : x.natAbs < 1073741824 := by omega
    k_steps
    refine Hold.mk (LCg.CompEnd.intro (by k_asm) (by k_asm) _ (fun p hp => hp) off (.inr ⟨_, by k_mem, rfl, _, rfl⟩) ⟨rfl, by simp [hl9], ints_snoc hy hxi⟩)
  rintro sv nw ⟨rfl, hl9, hy⟩ st h9 tk9 F9 N9 o9
  have e9 : (ws.take wv.toArray.size) = ws := List.take_of_length_le (by simp [hwl])
  rw [e9] at hy
  have nst : @Ne Nat x st ∧ @Ne Nat dx st ∧ LCg.Off1 st news := by simp only [LCg.Off1] at o9; exact ⟨o9.2.2.1, o9.2.2.2.1, o9.2.2.2.2⟩
  simp only [LCg.Off1] at o9
  k_steps
  -- the rows
  refine Hold.mk (LCp.SrcLP.ledger rfl (by k_asm) (by k_asm) (by k_mem) (by simp only [List.size_toArray, sizeLine_eq]; omega) fun g => ?_)
  refine restP_start (RowsJ w most moct) rowsJ_nil ?_ ?_
  rotate_left
  · rintro i v ys2 nw hi1 hP J
    have hP' : lv[i]? = some v := by simpa using hP
    obtain ⟨ta, u1, u2, n9, rfl, hta⟩ := hlim v (List.mem_of_getElem? hP')
    refine ⟨ta, _, _, _, _, rfl, J.1 _ (by k_mem), rfl, rfl, ?_⟩
    intro I oI C oC D m₂ h tk E' hC hx1 hx2 F9 N9 off ne
    k_steps
    refine Hold.mk (row_step (by k_asm) (by k_asm) J off (by assumption) (by assumption) (by assumption) fun nw' hs => .inr ⟨_, hs _ (J.1 _ (by k_mem)), rfl, _, rfl⟩)
  rintro yv nw J ro h9 tk9 F9 N9 o9
  have m0 : ∃ od, (dx, od) ∈ nw := ⟨_, J.1 _ (by k_mem)⟩
  have n1 : @Ne Nat dx ro := by obtain ⟨od, hod⟩ := m0; exact off1_mem o9 _ hod
  clear m0
  have N10 := take_out (d := dx) N9 (J.1 _ (by k_mem))
  refine gl fun G9 hG9 => ?_
  obtain ⟨rs, q1, q2, q3, q4, q5⟩ := RowsJ.out (d := dx) J (by k_mem)
  refine hG9 ?_
  clear hG9 G9
  have m1 := take_out_in (d := dx) (J.1 (x, instObj 165 dx) (by k_mem)) (by k_ne)
  have m2 := take_out_in (d := dx) (J.1 (L1 + 1, oc) (by k_mem)) (by k_ne)
  have m3 := take_out_in (d := dx) (J.1 (wl, listOf wv.toArray c1) (by k_mem)) (Nat.ne_of_lt (l1' _ hw))
  have m4 := take_out_in (d := dx) (J.1 (st, LCg.lst sv) (by k_mem)) (by k_ne)
  have m5 : ∀ p ∈ news, p ∈ nw.filter (fun p => decide (p.1 ≠ dx)) := fun p hp => take_out_in (d := dx) (J.1 p (by simp only [List.mem_cons, hp, or_true])) (Nat.ne_of_lt (l1' _ hp))
  have e1 : ∀ p ∈ nw.filter (fun p => decide (p.1 ≠ dx)), p.1 ≠ dx := take_out_ne
  have q6 : ∀ a ∈ rs.flatMap (fun r => [r.2.1, r.1, r.2.2]), (@LT.lt Nat _ dx a ∧ @LT.lt Nat _ x a ∧ @LT.lt Nat _ st a) ∧ ∀ p ∈ news, @LT.lt Nat _ p.1 a := fun a ha => ⟨⟨q5 a ha (dx, _) (by k_mem), q5 a ha (x, _) (by k_mem), q5 a ha (st, _) (by k_mem)⟩, fun p hp => q5 a ha p (by simp only [List.mem_cons, hp, or_true])⟩
  clear q5
  have o10 := off1_mem o9
  have n2 : ∀ p ∈ nw.filter (fun p => decide (p.1 ≠ dx)), @Ne Nat p.1 ro := fun p hp => o10 p ((List.mem_filter.mp hp).1)
  clear o9 o10 J N9
  generalize nw.filter (fun p => decide (p.1 ≠ dx)) = rest at *
  k_steps
  refine Hold.mk (LCg.CompSrc.ledger rfl (by k_asm) (by k_asm) (by k_mem) (by simp only [List.size_toArray, sizeLine_eq]; omega) fun g => ?_)
  refine rest_start FinsJ finsJ_nil ?_ ?_
  rotate_left
  · rintro i v ys2 nw I oI C oC D m₂ h tk E' hi1 hP J hC hx1 F9 N9 off ne
    k_steps
    refine Hold.mk (fins_step (by k_asm) (by k_asm) J off (by assumption) fun nw' hs => .inr ⟨_, hs _ (J.1 _ (by k_mem)), rfl, _, rfl⟩)
  rintro fv nw J fi h9 tk9 F9 N9 o9
  have o10 := off1_mem o9
  have m0 : ∃ od, (dx, od) ∈ nw := ⟨_, J.1 _ (by k_mem)⟩
  have n3 : @Ne Nat dx fi := by obtain ⟨od, hod⟩ := m0; exact o10 _ hod
  clear m0
  have N10 := take_out (d := dx) N9 (J.1 _ (by k_mem))
  refine gl fun G9 hG9 => ?_
  obtain ⟨fs, f1, f2, f3, f4, f5⟩ := FinsJ.out (d := dx) J (by k_mem)
  refine hG9 ?_
  clear hG9 G9
  have sub2 : ∀ p ∈ rest, p ∈ nw.filter (fun p => decide (p.1 ≠ dx)) := fun p hp => take_out_in (J.1 p (by simp only [List.mem_cons, hp, or_true])) (e1 p hp)
  have m6 := take_out_in (d := dx) (J.1 (ro, LCg.lst yv) (by k_mem)) (Ne.symm n1)
  have f6 : ∀ a ∈ fs, (@LT.lt Nat _ dx a ∧ @LT.lt Nat _ x a ∧ @LT.lt Nat _ st a ∧ @LT.lt Nat _ ro a) ∧ (∀ p ∈ news, @LT.lt Nat _ p.1 a) ∧ ∀ b ∈ rs.flatMap (fun r => [r.2.1, r.1, r.2.2]), @LT.lt Nat _ b a := fun a ha => by
    refine ⟨⟨f5 a ha (dx, _) (by k_mem), f5 a ha (x, _) (by k_mem), f5 a ha (st, _) (by k_mem), f5 a ha (ro, _) (by k_mem)⟩, fun p hp => f5 a ha p (by simp only [List.mem_cons, m5 p hp, or_true]), fun b hb => ?_⟩
    obtain ⟨o, ho⟩ := rows_in q3 b hb
    exact f5 a ha (b, o) (by simp only [List.mem_cons, ho, or_true])
  have n4 : ∀ p ∈ nw.filter (fun p => decide (p.1 ≠ dx)), @Ne Nat p.1 fi := fun p hp => o10 p (List.mem_filter.mp hp).1
  have e2 : ∀ p ∈ nw.filter (fun p => decide (p.1 ≠ dx)), p.1 ≠ dx := take_out_ne
  have n5 : ∀ a ∈ rs.flatMap (fun r => [r.2.1, r.1, r.2.2]), @Ne Nat a ro := fun a ha => by
    obtain ⟨o, ho⟩ := rows_in q3 a ha
    exact n2 _ ho
  have n6 : (@Ne Nat dx ro ∧ @Ne Nat x ro ∧ @Ne Nat st ro) := ⟨n1, n2 _ m1, n2 _ m4⟩
  have n7 : ∀ p ∈ news, @Ne Nat p.1 ro := fun p hp => n2 p (m5 p hp)
  replace q3 : ∀ r ∈ rs, RowY w (nw.filter (fun p => decide (p.1 ≠ dx))) ⟨r.1, r.2.1, r.2.2, 0, most, moct, 0, [], []⟩ := fun r hr => (q3 r hr).mono sub2
  replace m1 := sub2 _ m1
  replace m2 := sub2 _ m2
  replace m3 := sub2 _ m3
  replace m4 := sub2 _ m4
  replace m5 : ∀ p ∈ news, p ∈ nw.filter (fun p => decide (p.1 ≠ dx)) := fun p hp => sub2 p (m5 p hp)
  clear o10 J N9 sub2 f5 e1 n2
  generalize nw.filter (fun p => decide (p.1 ≠ dx)) = rest2 at *
  k_steps
  simp only [List.flatten_replicate_singleton, Int.toNat_natCast] at *
  exact init_fin (n := wv.length) (by k_asm) (by k_asm) (by assumption) hu0 hu8 hud hy (by assumption) (q1.trans (by simp [hleq])) (f1.trans (by simp)) hwl q2 f2 m1 m4 m6 q3 f3 m5 e2 n4 n3 l1' l2 nst q4 q6 n6 n7 n5 f4 f6 ret
end
end Part5
section Part6
theorem wo6 : True := by
  w_top off
  trivial
theorem getD_set {xs : List Int} {k : Nat} {v : Int} (h : k < xs.length) : (xs.set k v).getD k 0 = v := by simp [List.getD, h]
/-- the finish number that put reckons -/
noncomputable def putF (last0 : List Int) (time0 : Int) (steps : List Int) (k : Nat) (size : Int) : Int := (if time0 > last0.getD k 0 then time0 else last0.getD k 0) + size * steps.getD k 0
noncomputable def waitQ (q : WFq) : Int := (q.rows.map fun r => (r.things.length : Int)).sum
inductive PutEnd (w : World) (q : WFq) (r : Row) (k : Nat) (size thing : Int) (nv : List Value) (all0 news' : List (Addr × Obj)) : Prop
  | mk (la' D : Addr) (last0 : List Int) (time0 : Int) (hc : (waitQ q = 0 ∧ last0 = List.replicate q.last.length 0 ∧ time0 = 0 ∧ AllLt la' all0) ∨ (waitQ q ≠ 0 ∧ la' = q.la ∧ last0 = q.last ∧ time0 = q.time))
    (h1 : WfAt w news' q.dx q.unit q.st q.ro q.fi la' time0) (h2 : IntL news' la' (last0.set k (putF last0 time0 q.steps k size))) (h3 : RowAt w news' r.dy r.most r.moct r.th (r.octs + size))
    (h4 : ∃ c, (r.th, listOf (thRefs r ++ [Value.ref D]).toArray c) ∈ news') (h5 : TpIn news' D size thing) (h6 : ∃ c t, (r.fn, listOf (nv ++ [Value.int (putF last0 time0 q.steps k size) t]).toArray c) ∈ news') : PutEnd w q r k size thing nv all0 news'
theorem mem_push {a : Addr} {vs : List Value} {v : Value} {c : Nat} {l : List (Addr × Obj)} (h : (a, listOf (vs.toArray.push v) c) ∈ l) : (a, listOf (vs ++ [v]).toArray c) ∈ l := by rw [← List.push_toArray]; exact h
theorem putA {w : World} {h₀ h' : Heap} {L la' D l0 : Addr} {o0 : Obj} {q : WFq} {r : Row} {k : Int} {size thing dr Y : Int} {lX : List Int} {nv lvX : List Value} {ola : Obj} {rest : List (Addr × Obj)} {k1 k2 k3 k4 k5 k6 j1 j2 j3 j4 j5 t1 t2 t3 t4 t5 t6 u1 u2 tY : Tok} {cz c2 c3 cD : Nat} {odx ody oth ofn : Obj}
    (N : News h₀ L h' ((D, tupO [.int size u1, .int thing u2] cD) :: (la', listOf lvX.toArray cz) :: (l0, o0) :: (q.dx, dictOf (wfEs w k1 k2 k3 k4 k5 k6 (.int q.unit t1) q.st q.ro q.fi la' (.int 0 t2)) 6) :: (q.la, ola) ::
      (r.dy, dictOf (rowEs w j1 j2 j3 j4 j5 (.int r.most t3) (.int r.moct t4) r.th (.int (r.octs + size) t5) (.int dr t6)) 5) :: (r.th, listOf ((thRefs r).toArray.push (.ref D)) c2) :: (r.fn, listOf (nv.toArray.push (.int Y tY)) c3) :: rest))
    (hi : IntsAre lvX lX) (hX : lX = (List.replicate q.last.length 0).set k.toNat (putF (List.replicate q.last.length 0) 0 q.steps k.toNat size)) (hY : Y = lX.getD k.toNat 0) (hk : k.toNat < q.last.length) (hw : waitQ q = 0)
    (hl : @LT.lt Nat _ l0 la' ∧ @LT.lt Nat _ q.dx la' ∧ @LT.lt Nat _ q.la la' ∧ @LT.lt Nat _ r.dy la' ∧ @LT.lt Nat _ r.th la' ∧ @LT.lt Nat _ r.fn la' ∧ AllLt la' rest) :
    PutEnd w q r k.toNat size thing nv ((q.dx, odx) :: (q.la, ola) :: (r.dy, ody) :: (r.th, oth) :: (r.fn, ofn) :: rest) ((D, tupO [.int size u1, .int thing u2] cD) :: (la', listOf lvX.toArray cz) :: (l0, o0) :: (q.dx, dictOf (wfEs w k1 k2 k3 k4 k5 k6 (.int q.unit t1) q.st q.ro q.fi la' (.int 0 t2)) 6) :: (q.la, ola) ::
      (r.dy, dictOf (rowEs w j1 j2 j3 j4 j5 (.int r.most t3) (.int r.moct t4) r.th (.int (r.octs + size) t5) (.int dr t6)) 5) :: (r.th, listOf ((thRefs r).toArray.push (.ref D)) c2) :: (r.fn, listOf (nv.toArray.push (.int Y tY)) c3) :: rest) := by
  subst hX
  rw [getD_set (by simpa using hk)] at hY
  subst hY
  refine ⟨la', D, _, _, .inl ⟨hw, rfl, rfl, hl.2⟩, ⟨k1, k2, k3, k4, k5, k6, t1, t2, by k_mem⟩, ⟨cz, lvX, by k_mem, hi⟩, ⟨j1, j2, j3, j4, j5, t3, t4, t5, dr, t6, by k_mem⟩, ⟨c2, mem_push (by k_mem)⟩, ⟨u1, u2, cD, by k_mem⟩, ⟨c3, tY, mem_push (by k_mem)⟩⟩
theorem putB {w : World} {h₀ h' : Heap} {L D : Addr} {q : WFq} {r : Row} {k : Int} {size thing dr Y : Int} {lX : List Int} {nv lvX : List Value} {rest all0 : List (Addr × Obj)} {k1 k2 k3 k4 k5 k6 j1 j2 j3 j4 j5 t1 t2 t3 t4 t5 t6 u1 u2 tY : Tok} {cz c2 c3 cD : Nat}
    (N : News h₀ L h' ((D, tupO [.int size u1, .int thing u2] cD) :: (q.dx, dictOf (wfEs w k1 k2 k3 k4 k5 k6 (.int q.unit t1) q.st q.ro q.fi q.la (.int q.time t2)) 6) :: (q.la, listOf lvX.toArray cz) ::
      (r.dy, dictOf (rowEs w j1 j2 j3 j4 j5 (.int r.most t3) (.int r.moct t4) r.th (.int (r.octs + size) t5) (.int dr t6)) 5) :: (r.th, listOf ((thRefs r).toArray.push (.ref D)) c2) :: (r.fn, listOf (nv.toArray.push (.int Y tY)) c3) :: rest))
    (hi : IntsAre lvX lX) (hX : lX = q.last.set k.toNat (putF q.last q.time q.steps k.toNat size)) (hY : Y = lX.getD k.toNat 0) (hk : k.toNat < q.last.length) (hw : waitQ q ≠ 0) :
    PutEnd w q r k.toNat size thing nv all0 ((D, tupO [.int size u1, .int thing u2] cD) :: (q.dx, dictOf (wfEs w k1 k2 k3 k4 k5 k6 (.int q.unit t1) q.st q.ro q.fi q.la (.int q.time t2)) 6) :: (q.la, listOf lvX.toArray cz) ::
      (r.dy, dictOf (rowEs w j1 j2 j3 j4 j5 (.int r.most t3) (.int r.moct t4) r.th (.int (r.octs + size) t5) (.int dr t6)) 5) :: (r.th, listOf ((thRefs r).toArray.push (.ref D)) c2) :: (r.fn, listOf (nv.toArray.push (.int Y tY)) c3) :: rest) := by
  subst hX
  rw [getD_set (by simpa using hk)] at hY
  subst hY
  refine ⟨q.la, D, _, _, .inr ⟨hw, rfl, rfl, rfl⟩, ⟨k1, k2, k3, k4, k5, k6, t1, t2, by k_mem⟩, ⟨cz, lvX, by k_mem, hi⟩, ⟨j1, j2, j3, j4, j5, t3, t4, t5, dr, t6, by k_mem⟩, ⟨c2, mem_push (by k_mem)⟩, ⟨u1, u2, cD, by k_mem⟩, ⟨c3, tY, mem_push (by k_mem)⟩⟩
section
variable {prog : Program} {w : World} {p : Program} {loose : List Str} {mean : ExcName → Option Value} {mg mb : Str → Option Value}
    {dp un : Nat} {gd : Option (List Code)} {cn : Str} {cs : Scope} {a : Addr} {ccd : Value} {cl : List (Str × Addr)} {outer : List Env} {A₀ : Around} {base h₀ : Heap} {L : Addr} {m : Str → Option Value} {s : Shared} {Q E : Value → Shared → Prop}
    {news : List (Addr × Obj)}
set_option maxHeartbeats 8000000 in
theorem put_w {q : WFq} {r : Row} {k1 k2 k3 k4 k5 k6 j1 j2 j3 j4 j5 t1 t2 t3 t4 t5 t6 : Tok} {dr : Int} {c1 c2 c3 c4 c5 c6 : Nat} {lv nv sv : List Value} {k size thing : Int} {u1 u2 u3 : Tok} {rest : List (Addr × Obj)}
    (B : Below A₀ base outer h₀) (F : Fr h₀ L s.heap m) (X : (hK w.params).In h₀) (T : Top p loose mean mg mb h₀) (hk : cs.kind = .function) (N : News h₀ L s.heap ((q.dx, dictOf (wfEs w k1 k2 k3 k4 k5 k6 (.int q.unit t1) q.st q.ro q.fi q.la (.int q.time t2)) 6) :: (q.la, listOf lv.toArray c1) :: (r.dy, dictOf (rowEs w j1 j2 j3 j4 j5 (.int r.most t3) (.int r.moct t4) r.th (.int r.octs t5) (.int dr t6)) 5) :: (r.th, listOf (thRefs r).toArray c2) :: (r.fn, listOf nv.toArray c3) :: rest))
    (hx : (q.x, instObj 165 q.dx) ∈ rest) (hy : (r.y, instObj 106 r.dy) ∈ rest) (hst : (q.st, listOf sv.toArray c4) ∈ rest) (hro : (q.ro, listOf (q.rows.map fun r => Value.ref r.y).toArray c5) ∈ rest) (hfi : (q.fi, listOf (q.rows.map fun r => Value.ref r.fn).toArray c6) ∈ rest)
    (e1 : ∀ p ∈ rest, p.1 ≠ q.dx) (e2 : ∀ p ∈ rest, p.1 ≠ q.la) (e3 : ∀ p ∈ rest, p.1 ≠ r.dy) (e4 : ∀ p ∈ rest, p.1 ≠ r.th) (e5 : ∀ p ∈ rest, p.1 ≠ r.fn)
    (hne : @Ne Nat q.dx q.la ∧ @Ne Nat q.dx r.dy ∧ @Ne Nat q.dx r.th ∧ @Ne Nat q.dx r.fn ∧ @Ne Nat q.la r.dy ∧ @Ne Nat q.la r.th ∧ @Ne Nat q.la r.fn ∧ @Ne Nat r.dy r.th ∧ @Ne Nat r.dy r.fn ∧ @Ne Nat r.th r.fn)
    (hW : ∀ z ∈ q.rows, RowY w ((q.dx, dictOf (wfEs w k1 k2 k3 k4 k5 k6 (.int q.unit t1) q.st q.ro q.fi q.la (.int q.time t2)) 6) :: (q.la, listOf lv.toArray c1) :: (r.dy, dictOf (rowEs w j1 j2 j3 j4 j5 (.int r.most t3) (.int r.moct t4) r.th (.int r.octs t5) (.int dr t6)) 5) :: (r.th, listOf (thRefs r).toArray c2) :: (r.fn, listOf nv.toArray c3) :: rest) z)
    (hlen : q.rows.length < 100) (hlr : ∀ r ∈ q.rows, r.things.length < 1000)
    (hisv : IntsAre sv q.steps) (hilv : IntsAre lv q.last) (hinv : IntsAre nv r.fins)
    (hk0 : 0 ≤ k) (hkf : k < 2 ^ 63) (hk1 : k < q.last.length) (hk2 : k < q.steps.length) (hl3 : q.last.length < 1000) (hrk : (q.rows.map fun r => Value.ref r.y)[k.toNat]? = some (.ref r.y)) (hfk : (q.rows.map fun r => Value.ref r.fn)[k.toNat]? = some (.ref r.fn))
    (hroom1 : (r.things.length : Int) < r.most) (hroom2 : r.octs + size ≤ r.moct) (hs0 : 0 ≤ size) (hs1 : size < 1000) (htl : r.things.length < 1000) (hnl : nv.length < 1000)
    (hdp : dp + 20 < recursionLimit) (hun : un + 200 < cLine)
    (ret : ∀ h' tk' news', PutEnd w q r k.toNat size thing nv ((q.dx, dictOf (wfEs w k1 k2 k3 k4 k5 k6 (.int q.unit t1) q.st q.ro q.fi q.la (.int q.time t2)) 6) :: (q.la, listOf lv.toArray c1) :: (r.dy, dictOf (rowEs w j1 j2 j3 j4 j5 (.int r.most t3) (.int r.moct t4) r.th (.int r.octs t5) (.int dr t6)) 5) :: (r.th, listOf (thRefs r).toArray c2) :: (r.fn, listOf nv.toArray c3) :: rest) news' → (∀ p ∈ rest, p ∈ news') → Fr h₀ L h' m → News h₀ L h' news' → Q (.bool true) { s with heap := h', toks := tk' }) :
    wpAny (model prog w) (ktrTop dp un gd cn cs L a ccd cl outer) (call (.ref 143) [.ref q.x, .int k u1, .int size u2, .int thing u3]) Q E s := by
  have kf : (fun (_ : OpenLaw) (_ : Params → Frag) => True) PySem.Challenge.rw_pc0369_01 hK := by k_fill; trivial
  clear kf
  have hb9 : Base s := ⟨⟩
  refine gl fun G9 hG9 => ?_
  obtain ⟨q1, q2, q3, q4, q5, q6, q7, q8, q9, q10⟩ := hne
  refine hG9 ?_
  clear hG9 G9
  refine wpAny_call ?_
  k_dflt (refine' code_def ?k1 ?k2 ?k3 ?k4 ?k5 ?kA ?kF ?kK ?k6 ?k7 ?k8 ?k9 ?kB ?_ ?c2 ?c3 ?c4 ?c5; (case kA => exact rfl); (case kF => exact rfl); (case kK => assumption); (case k1 => k_asm); (case k2 => k_asm); (case k3 => k_asm); (case k4 => k_asm); (case k5 => k_asm); (case k6 => k_is); (case k7 => k_is); (case k8 => k_room); (case k9 => first | exact BindsTo.of_eq rfl | exact binds_K (by k_in) rfl (by k_is) rfl rfl rfl); (case c5 => decide); (case kB => exact locs rfl); (case c2 => exact rfl); (case c3 => exact rfl); (case c4 => exact rfl); k_whole)
  intro g1 L1 h1 FG1 F1 N1 B1 X1 T1
  (try dsimp only); (try k_lift B1); (try k_fold)
  replace F1 := fr_open F1
  obtain ⟨m1, F1, em1⟩ := F1
  refine letMA ?_
  intro M9 A9
  k_steps
  refine Hold.mk (waiting_c (q := q) (la := q.la) (by k_asm) (by k_asm) (by k_asm) (by k_asm) rfl (by k_asm) (by k_mem) (by k_mem) (by k_mem) hW hlen hlr (by k_room) (by k_units) fun tw hw9 tkw Fw Nw => ?_)
  (try dsimp only)
  (try k_fold)
  k_steps
  · simp only [List.flatten_replicate_singleton, Int.toNat_natCast] at *
    refine ret _ _ _ (putA (by assumption) (by assumption) rfl rfl (by omega) (by assumption) (by assumption)) (fun p hp => by simp only [List.mem_cons, hp, or_true]) (by k_asm) (by k_asm)
  · refine ret _ _ _ (putB (by assumption) (by assumption) rfl rfl (by omega) (by assumption)) (fun p hp => by simp only [List.mem_cons, hp, or_true]) (by k_asm) (by k_asm)
end
end Part6
section Part7
theorem news_fun {h₀ h : Heap} {L : Addr} {news : List (Addr × Obj)} (N : News h₀ L h news) {p p' : Addr × Obj} (h1 : p ∈ news) (h2 : p' ∈ news) (e : p.1 = p'.1) : p = p' := by
  have a := (N p h1).1
  have b := (N p' h2).1
  rw [e, b] at a
  exact Prod.ext e (Option.some.inj a).symm
theorem adr_has {w : World} {news : List (Addr × Obj)} {q : WFq} (hq : WFIn w news q) : ∀ a ∈ adrQ q, ∃ o, (a, o) ∈ news := by
  refine gl fun G9 hG9 => ?_
  obtain ⟨h1, ⟨k1, k2, k3, k4, k5, k6, t1, t2, h2⟩, ⟨c3, sv, h3, _⟩, ⟨c4, h4⟩, ⟨c5, h5⟩, ⟨c6, lv, h6, _⟩, h7⟩ := hq
  refine hG9 ?_
  clear hG9 G9
  intro a ha
  simp only [adrQ, List.mem_cons, List.mem_flatMap, adrR, List.not_mem_nil, or_false] at ha
  rcases ha with rfl | rfl | rfl | rfl | rfl | rfl | ⟨r, hr, ha⟩
  · exact ⟨_, h2⟩
  · exact ⟨_, h1⟩
  · exact ⟨_, h3⟩
  · exact ⟨_, h4⟩
  · exact ⟨_, h5⟩
  · exact ⟨_, h6⟩
  · obtain ⟨⟨g1, ⟨a1, a2, a3, a4, a5, b1, b2, b3, b4, b5, g2⟩, c, g3⟩, ⟨c', nv, g4, _⟩, _⟩ := h7 r hr
    rcases ha with rfl | rfl | rfl | rfl
    · exact ⟨_, g2⟩
    · exact ⟨_, g1⟩
    · exact ⟨_, g3⟩
    · exact ⟨_, g4⟩
noncomputable def fixL (q : WFq) (r : Row) : List Addr := [q.dx, q.x, q.st, q.ro, q.fi, q.la, r.dy, r.y, r.th, r.fn]
theorem adr_perm {q : WFq} {pre post : List Row} {r : Row} (e : q.rows = pre ++ r :: post) : (adrQ q).Perm (fixL q r ++ (pre ++ post).flatMap adrR) := by
  unfold adrQ fixL
  rw [e]
  refine List.Perm.cons _ (List.Perm.cons _ (List.Perm.cons _ (List.Perm.cons _ (List.Perm.cons _ (List.Perm.cons _ ?_)))))
  have : (pre ++ r :: post).Perm (r :: (pre ++ post)) := List.perm_middle
  exact (this.flatMap_right adrR)
/-- what a method that turns row r may turn -/
noncomputable def mutL (q : WFq) (r : Row) : List Addr := [q.dx, q.la, r.dy, r.th, r.fn]
noncomputable def restL (q : WFq) (r : Row) (news : List (Addr × Obj)) : List (Addr × Obj) := news.filter fun p => decide (p.1 ∉ mutL q r)
theorem restL_in {q : WFq} {r : Row} {news : List (Addr × Obj)} {p : Addr × Obj} (h : p ∈ news) (e : p.1 ∉ mutL q r) : p ∈ restL q r news := List.mem_filter.mpr ⟨h, by simpa using e⟩
theorem restL_ne {q : WFq} {r : Row} {news : List (Addr × Obj)} : ∀ p ∈ restL q r news, p.1 ≠ q.dx ∧ p.1 ≠ q.la ∧ p.1 ≠ r.dy ∧ p.1 ≠ r.th ∧ p.1 ≠ r.fn := fun p hp => by
  have := (List.mem_filter.mp hp).2
  simpa [mutL] using this
/-- the parts of a queue of queues, its row at k taken out -/
structure Parts (w : World) (news : List (Addr × Obj)) (q : WFq) (r : Row) (k1 k2 k3 k4 k5 k6 t1 t2 j1 j2 j3 j4 j5 t3 t4 t5 t6 : Tok) (dr : Int) (c1 c2 c3 c4 c5 c6 : Nat) (lv nv sv : List Value) : Prop where
  hdx : (q.dx, dictOf (wfEs w k1 k2 k3 k4 k5 k6 (.int q.unit t1) q.st q.ro q.fi q.la (.int q.time t2)) 6) ∈ news
  hla : (q.la, listOf lv.toArray c1) ∈ news
  hdy : (r.dy, dictOf (rowEs w j1 j2 j3 j4 j5 (.int r.most t3) (.int r.moct t4) r.th (.int r.octs t5) (.int dr t6)) 5) ∈ news
  hth : (r.th, listOf (thRefs r).toArray c2) ∈ news
  hfn : (r.fn, listOf nv.toArray c3) ∈ news
  hx : (q.x, instObj 165 q.dx) ∈ restL q r news
  hy : (r.y, instObj 106 r.dy) ∈ restL q r news
  hst : (q.st, listOf sv.toArray c4) ∈ restL q r news
  hro : (q.ro, listOf (q.rows.map fun r => Value.ref r.y).toArray c5) ∈ restL q r news
  hfi : (q.fi, listOf (q.rows.map fun r => Value.ref r.fn).toArray c6) ∈ restL q r news
  hisv : IntsAre sv q.steps
  hilv : IntsAre lv q.last
  hinv : IntsAre nv r.fins
inductive PartsE (w : World) (news : List (Addr × Obj)) (q : WFq) (r : Row) : Prop
  | mk (k1 k2 k3 k4 k5 k6 t1 t2 j1 j2 j3 j4 j5 t3 t4 t5 t6 : Tok) (dr : Int) (c1 c2 c3 c4 c5 c6 : Nat) (lv nv sv : List Value) (h : Parts w news q r k1 k2 k3 k4 k5 k6 t1 t2 j1 j2 j3 j4 j5 t3 t4 t5 t6 dr c1 c2 c3 c4 c5 c6 lv nv sv) : PartsE w news q r
noncomputable def PartsRes (w : World) (news : List (Addr × Obj)) (q : WFq) (r : Row) (zs : List Row) : Prop :=
    PartsE w news q r ∧
    (@Ne Nat q.dx q.la ∧ @Ne Nat q.dx r.dy ∧ @Ne Nat q.dx r.th ∧ @Ne Nat q.dx r.fn ∧ @Ne Nat q.la r.dy ∧ @Ne Nat q.la r.th ∧ @Ne Nat q.la r.fn ∧ @Ne Nat r.dy r.th ∧ @Ne Nat r.dy r.fn ∧ @Ne Nat r.th r.fn) ∧
    (∀ z ∈ zs, ∀ a ∈ adrR z, a ∉ mutL q r)
theorem parts_of {w : World} {news : List (Addr × Obj)} {q : WFq} {r : Row} {pre post : List Row} (hq : WFIn w news q) (hnd : (adrQ q).Nodup) (e : q.rows = pre ++ r :: post) :
    PartsRes w news q r (pre ++ post) := by
  refine gl fun G9 hG9 => ?_
  obtain ⟨h1, ⟨k1, k2, k3, k4, k5, k6, t1, t2, h2⟩, ⟨c4, sv, h3, hisv⟩, ⟨c5, h4⟩, ⟨c6, h5⟩, ⟨c1, lv, h6, hilv⟩, h7⟩ := hq
  refine hG9 ?_
  clear hG9 G9
  refine gl fun G9 hG9 => ?_
  obtain ⟨⟨g1, ⟨j1, j2, j3, j4, j5, t3, t4, t5, dr, t6, g2⟩, c2, g3⟩, ⟨c3, nv, g4, hinv⟩, _⟩ := h7 r (by rw [e]; simp)
  refine hG9 ?_
  clear hG9 G9
  have P := (adr_perm e).nodup_iff.mp hnd
  rw [List.nodup_append] at P
  obtain ⟨P1, _, P2⟩ := P
  simp only [fixL, List.nodup_cons, List.mem_cons, List.not_mem_nil, or_false, not_or, List.nodup_nil, and_true, not_false_eq_true] at P1
  refine gl fun G9 hG9 => ?_
  obtain ⟨⟨d1, d2, d3, d4, d5, d6, d7, d8, d9⟩, ⟨x2, x3, x4, x5, x6, x7, x8, x9⟩, ⟨s3, s4, s5, s6, s7, s8, s9⟩, ⟨r4, r5, r6, r7, r8, r9⟩, ⟨f5, f6, f7, f8, f9⟩, ⟨l6, l7, l8, l9⟩, ⟨a7, a8, a9⟩, ⟨b8, b9⟩, m9⟩ := P1
  refine hG9 ?_
  clear hG9 G9
  refine ⟨⟨k1, k2, k3, k4, k5, k6, t1, t2, j1, j2, j3, j4, j5, t3, t4, t5, t6, dr, c1, c2, c3, c4, c5, c6, lv, nv, sv, ⟨h2, h6, g2, g3, g4, restL_in h1 ?_, restL_in g1 ?_, restL_in h3 ?_, restL_in h4 ?_, restL_in h5 ?_, hisv, hilv, hinv⟩⟩, ⟨d5, d6, d8, d9, l6, l8, l9, a8, a9, m9⟩, ?_⟩
  · simp only [mutL, List.mem_cons, List.not_mem_nil, or_false, not_or]; exact ⟨Ne.symm d1, x5, x6, x8, x9⟩
  · simp only [mutL, List.mem_cons, List.not_mem_nil, or_false, not_or]; exact ⟨Ne.symm d7, Ne.symm l7, Ne.symm a7, b8, b9⟩
  · simp only [mutL, List.mem_cons, List.not_mem_nil, or_false, not_or]; exact ⟨Ne.symm d2, s5, s6, s8, s9⟩
  · simp only [mutL, List.mem_cons, List.not_mem_nil, or_false, not_or]; exact ⟨Ne.symm d3, r5, r6, r8, r9⟩
  · simp only [mutL, List.mem_cons, List.not_mem_nil, or_false, not_or]; exact ⟨Ne.symm d4, f5, f6, f8, f9⟩
  · intro z hz a ha hm
    have hb := List.mem_flatMap.mpr ⟨z, hz, ha⟩
    have : a ∈ fixL q r := by
      simp only [mutL, fixL, List.mem_cons, List.not_mem_nil, or_false] at hm ⊢
      rcases hm with h | h | h | h | h <;> simp [h]
    exact P2 a this a hb rfl
theorem tup_rest {w : World} {h₀ h : Heap} {L : Addr} {news : List (Addr × Obj)} {q : WFq} {r : Row} {k1 k2 k3 k4 k5 k6 t1 t2 j1 j2 j3 j4 j5 t3 t4 t5 t6 : Tok} {dr : Int} {c1 c2 c3 c4 c5 c6 : Nat} {lv nv sv : List Value} (P : Parts w news q r k1 k2 k3 k4 k5 k6 t1 t2 j1 j2 j3 j4 j5 t3 t4 t5 t6 dr c1 c2 c3 c4 c5 c6 lv nv sv)
    (N : News h₀ L h news) {a : Addr} {vs : List Value} {n : Nat} (ha : (a, tupO vs n) ∈ news) : (a, tupO vs n) ∈ restL q r news := by
  refine restL_in ha fun hm => ?_
  simp only [mutL, List.mem_cons, List.not_mem_nil, or_false] at hm
  rcases hm with h | h | h | h | h
  · have := congrArg (fun p : Addr × Obj => p.2.cls) (news_fun N ha P.hdx h); simp at this
  · have := congrArg (fun p : Addr × Obj => p.2.cls) (news_fun N ha P.hla h); simp at this
  · have := congrArg (fun p : Addr × Obj => p.2.cls) (news_fun N ha P.hdy h); simp at this
  · have := congrArg (fun p : Addr × Obj => p.2.cls) (news_fun N ha P.hth h); simp at this
  · have := congrArg (fun p : Addr × Obj => p.2.cls) (news_fun N ha P.hfn h); simp at this
theorem sub_E {w : World} {h₀ h : Heap} {L : Addr} {news : List (Addr × Obj)} {q : WFq} {r : Row} {k1 k2 k3 k4 k5 k6 t1 t2 j1 j2 j3 j4 j5 t3 t4 t5 t6 : Tok} {dr : Int} {c1 c2 c3 c4 c5 c6 : Nat} {lv nv sv : List Value} (P : Parts w news q r k1 k2 k3 k4 k5 k6 t1 t2 j1 j2 j3 j4 j5 t3 t4 t5 t6 dr c1 c2 c3 c4 c5 c6 lv nv sv)
    (N : News h₀ L h news) : ∀ p ∈ news, p ∈ (q.dx, dictOf (wfEs w k1 k2 k3 k4 k5 k6 (.int q.unit t1) q.st q.ro q.fi q.la (.int q.time t2)) 6) :: (q.la, listOf lv.toArray c1) :: (r.dy, dictOf (rowEs w j1 j2 j3 j4 j5 (.int r.most t3) (.int r.moct t4) r.th (.int r.octs t5) (.int dr t6)) 5) :: (r.th, listOf (thRefs r).toArray c2) :: (r.fn, listOf nv.toArray c3) :: restL q r news := by
  intro p hp
  by_cases hm : p.1 ∈ mutL q r
  · simp only [mutL, List.mem_cons, List.not_mem_nil, or_false] at hm
    rcases hm with h | h | h | h | h
    · rw [news_fun N hp P.hdx h]; simp
    · rw [news_fun N hp P.hla h]; simp
    · rw [news_fun N hp P.hdy h]; simp
    · rw [news_fun N hp P.hth h]; simp
    · rw [news_fun N hp P.hfn h]; simp
  · have := restL_in hp hm
    simp [this]
theorem E_sub {w : World} {h₀ h : Heap} {L : Addr} {news : List (Addr × Obj)} {q : WFq} {r : Row} {k1 k2 k3 k4 k5 k6 t1 t2 j1 j2 j3 j4 j5 t3 t4 t5 t6 : Tok} {dr : Int} {c1 c2 c3 c4 c5 c6 : Nat} {lv nv sv : List Value} (P : Parts w news q r k1 k2 k3 k4 k5 k6 t1 t2 j1 j2 j3 j4 j5 t3 t4 t5 t6 dr c1 c2 c3 c4 c5 c6 lv nv sv)
    (N : News h₀ L h news) : News h₀ L h ((q.dx, dictOf (wfEs w k1 k2 k3 k4 k5 k6 (.int q.unit t1) q.st q.ro q.fi q.la (.int q.time t2)) 6) :: (q.la, listOf lv.toArray c1) :: (r.dy, dictOf (rowEs w j1 j2 j3 j4 j5 (.int r.most t3) (.int r.moct t4) r.th (.int r.octs t5) (.int dr t6)) 5) :: (r.th, listOf (thRefs r).toArray c2) :: (r.fn, listOf nv.toArray c3) :: restL q r news) := fun p hp => by
  simp only [List.mem_cons] at hp
  rcases hp with rfl | rfl | rfl | rfl | rfl | hp
  · exact N _ P.hdx
  · exact N _ P.hla
  · exact N _ P.hdy
  · exact N _ P.hth
  · exact N _ P.hfn
  · exact N _ (List.mem_filter.mp hp).1
/-- what put turns -/
inductive PutQ (q : WFq) (k : Nat) (size thing : Int) (q' : WFq) : Prop
  | mk (r : Row) (la' D : Addr) (last0 : List Int) (time0 : Int) (h1 : q.rows[k]? = some r) (h2 : (waitQ q = 0 ∧ last0 = List.replicate q.last.length 0 ∧ time0 = 0) ∨ (waitQ q ≠ 0 ∧ last0 = q.last ∧ time0 = q.time)) (h3 :
    q' = { q with la := la', last := last0.set k (putF last0 time0 q.steps k size), time := time0, rows := q.rows.set k { r with octs := r.octs + size, things := r.things ++ [(D, size, thing)], fins := r.fins ++ [putF last0 time0 q.steps k size] } }) : PutQ q k size thing q'
end Part7
section Part8
theorem RowIn.rest {w : World} {h₀ h : Heap} {L : Addr} {news news' : List (Addr × Obj)} {q : WFq} {r z : Row} {k1 k2 k3 k4 k5 k6 t1 t2 j1 j2 j3 j4 j5 t3 t4 t5 t6 : Tok} {dr : Int} {c1 c2 c3 c4 c5 c6 : Nat} {lv nv sv : List Value} (P : Parts w news q r k1 k2 k3 k4 k5 k6 t1 t2 j1 j2 j3 j4 j5 t3 t4 t5 t6 dr c1 c2 c3 c4 c5 c6 lv nv sv)
    (N : News h₀ L h news) (h1 : RowIn w news z) (hz : ∀ a ∈ adrR z, a ∉ mutL q r) (hs : ∀ p ∈ restL q r news, p ∈ news') : RowIn w news' z := by
  refine gl fun G9 hG9 => ?_
  obtain ⟨⟨g1, ⟨a1, a2, a3, a4, a5, b1, b2, b3, b4, b5, g2⟩, c, g3⟩, ⟨c', nv', g4, g5⟩, g6⟩ := h1
  refine hG9 ?_
  clear hG9 G9
  refine ⟨⟨hs _ (restL_in g1 (hz _ (by simp [adrR]))), ⟨a1, a2, a3, a4, a5, b1, b2, b3, b4, b5, hs _ (restL_in g2 (hz _ (by simp [adrR])))⟩, c, hs _ (restL_in g3 (hz _ (by simp [adrR])))⟩, ⟨c', nv', hs _ (restL_in g4 (hz _ (by simp [adrR]))), g5⟩, fun x hx => ?_⟩
  refine gl fun G9 hG9 => ?_
  obtain ⟨u1, u2, n, h⟩ := g6 x hx
  refine hG9 ?_
  clear hG9 G9
  exact ⟨u1, u2, n, hs _ (tup_rest P N h)⟩
theorem flatMap_set_same {r' : Row} : ∀ {rows : List Row} {k : Nat} {r : Row}, rows[k]? = some r → adrR r' = adrR r → (rows.set k r').flatMap adrR = rows.flatMap adrR
  | [], _, _, h, _ => by simp at h
  | z :: rows, 0, r, h, e => by
    obtain rfl : z = r := by simpa using h
    simp [e]
  | z :: rows, k + 1, r, h, e => by
    have := flatMap_set_same (rows := rows) (k := k) (r := r) (by simpa using h) e
    simp [this]
theorem map_set_same {β : Type} (f : Row → β) {r' : Row} : ∀ {rows : List Row} {k : Nat} {r : Row}, rows[k]? = some r → f r' = f r → (rows.set k r').map f = rows.map f
  | [], _, _, h, _ => by simp at h
  | z :: rows, 0, r, h, e => by
    obtain rfl : z = r := by simpa using h
    simp [e]
  | z :: rows, k + 1, r, h, e => by
    have := map_set_same f (rows := rows) (k := k) (r := r) (by simpa using h) e
    simp [this]
theorem split_at {rows : List Row} {k : Nat} {r : Row} (h : rows[k]? = some r) : ∃ pre post, rows = pre ++ r :: post ∧ pre.length = k ∧ ∀ r', rows.set k r' = pre ++ r' :: post := by
  have hk : k < rows.length := (List.getElem?_eq_some_iff.mp h).1
  have e : rows[k] = r := (List.getElem?_eq_some_iff.mp h).2
  refine ⟨rows.take k, rows.drop (k + 1), ?_, by simp; omega, fun r' => ?_⟩
  · conv => lhs; rw [← List.take_append_drop k rows, List.drop_eq_getElem_cons hk, e]
  · exact List.set_eq_take_append_cons_drop .. |>.trans (by simp [hk])
section
variable {prog : Program} {w : World} {p : Program} {loose : List Str} {mean : ExcName → Option Value} {mg mb : Str → Option Value}
    {dp un : Nat} {gd : Option (List Code)} {cn : Str} {cs : Scope} {a : Addr} {ccd : Value} {cl : List (Str × Addr)} {outer : List Env} {A₀ : Around} {base h₀ : Heap} {L : Addr} {m : Str → Option Value} {s : Shared} {Q E : Value → Shared → Prop}
    {news : List (Addr × Obj)}
set_option maxHeartbeats 4000000 in
theorem put_c {q : WFq} {k : Nat} {size thing : Int} {u1 u2 u3 : Tok}
    (B : Below A₀ base outer h₀) (F : Fr h₀ L s.heap m) (X : (hK w.params).In h₀) (T : Top p loose mean mg mb h₀) (hk : cs.kind = .function) (N : News h₀ L s.heap news) (hq : WFIn w news q) (hnd : (adrQ q).Nodup) (hkr : k < q.rows.length) (hlen : q.rows.length < 100) (hl1 : q.last.length = q.rows.length) (hl2 : q.steps.length = q.rows.length)
    (hroom : ∀ r ∈ q.rows, r.things.length < 99 ∧ r.fins.length = r.things.length ∧ (r.things.length : Int) < r.most ∧ r.octs + size ≤ r.moct) (hs0 : 0 ≤ size) (hs1 : size < 1000)
    (hdp : dp + 20 < recursionLimit) (hun : un + 200 < cLine)
    (ret : ∀ q' h' tk' news', PutQ q k size thing q' → WFIn w news' q' → (adrQ q').Nodup → (∀ a ∈ adrQ q', a ∈ adrQ q ∨ ∀ p ∈ news, p.1 ≠ a) → (∀ p ∈ news, p.1 ∉ adrQ q → p ∈ news') → Fr h₀ L h' m → News h₀ L h' news' → Q (.bool true) { s with heap := h', toks := tk' }) :
    wpAny (model prog w) (ktrTop dp un gd cn cs L a ccd cl outer) (call (.ref 143) [.ref q.x, .int (k : Int) u1, .int size u2, .int thing u3]) Q E s := by
  obtain ⟨r, hr⟩ : ∃ r, q.rows[k]? = some r := ⟨q.rows[k], List.getElem?_eq_getElem hkr⟩
  refine gl fun G9 hG9 => ?_
  obtain ⟨pre, post, e, hpl, hset⟩ := split_at hr
  refine hG9 ?_
  clear hG9 G9
  have hrm : r ∈ q.rows := List.mem_of_getElem? hr
  refine gl fun G9 hG9 => ?_
  obtain ⟨⟨k1, k2, k3, k4, k5, k6, t1, t2, j1, j2, j3, j4, j5, t3, t4, t5, t6, dr, c1, c2, c3, c4, c5, c6, lv, nv, sv, P⟩, hne, hoth⟩ := parts_of hq hnd e
  refine hG9 ?_
  clear hG9 G9
  refine gl fun G9 hG9 => ?_
  obtain ⟨hr1, hr2, hr3, hr4⟩ := hroom r hrm
  refine hG9 ?_
  clear hG9 G9
  have hnl : nv.length = r.fins.length := IntsAre.length P.hinv
  have hE := sub_E P N
  refine put_w (q := q) (r := r) B F X T hk (E_sub P N) P.hx P.hy P.hst P.hro P.hfi (fun p hp => (restL_ne p hp).1) (fun p hp => (restL_ne p hp).2.1) (fun p hp => (restL_ne p hp).2.2.1) (fun p hp => (restL_ne p hp).2.2.2.1) (fun p hp => (restL_ne p hp).2.2.2.2)
    hne (fun z hz => (hq.2.2.2.2.2.2 z hz).1.mono hE) hlen (fun z hz => Nat.lt_trans (hroom z hz).1 (by decide)) P.hisv P.hilv P.hinv (by omega) (by omega) (by omega) (by omega) (by omega) (by simp [hr]) (by simp [hr]) hr3 hr4 hs0 hs1 (by omega) (by omega) hdp hun ?_
  rintro h' tk' news' ⟨la', D, last0, time0, hcase, ⟨y1, y2, y3, y4, y5, y6, y7, y8, g1⟩, ⟨cl', lv', g2, g2'⟩, ⟨z1, z2, z3, z4, z5, z6, z7, z8, z9, z10, g3⟩, ⟨cth, g4⟩, ⟨v1, v2, v3, g5⟩, ⟨cf, tf, g6⟩⟩ hsub F' N'
  simp only [Int.toNat_natCast] at g2' g6
  generalize hF : putF last0 time0 q.steps k size = Fv at *
  refine ret { q with la := la', last := last0.set k Fv, time := time0, rows := q.rows.set k { r with octs := r.octs + size, things := r.things ++ [(D, size, thing)], fins := r.fins ++ [Fv] } } h' tk' news' ?_ ?_ ?_ ?_ ?_ F' N'
  · refine ⟨r, la', D, last0, time0, hr, ?_, by rw [hF]⟩
    rcases hcase with ⟨a, b, c, _⟩ | ⟨a, _, b, c⟩
    · exact .inl ⟨a, b, c⟩
    · exact .inr ⟨a, b, c⟩
  · refine ⟨hsub _ P.hx, ⟨y1, y2, y3, y4, y5, y6, y7, y8, g1⟩, ⟨c4, sv, hsub _ P.hst, P.hisv⟩, ⟨c5, ?_⟩, ⟨c6, ?_⟩, ⟨cl', lv', g2, g2'⟩, ?_⟩
    · show (q.ro, listOf ((q.rows.set k _).map fun r => Value.ref r.y).toArray c5) ∈ news'
      rw [map_set_same (r' := { r with octs := r.octs + size, things := r.things ++ [(D, size, thing)], fins := r.fins ++ [Fv] }) (fun r => Value.ref r.y) hr rfl]; exact hsub _ P.hro
    · show (q.fi, listOf ((q.rows.set k _).map fun r => Value.ref r.fn).toArray c6) ∈ news'
      rw [map_set_same (r' := { r with octs := r.octs + size, things := r.things ++ [(D, size, thing)], fins := r.fins ++ [Fv] }) (fun r => Value.ref r.fn) hr rfl]; exact hsub _ P.hfi
    · intro z hz
      have hz : z ∈ q.rows.set k _ := hz
      rw [hset] at hz
      rcases List.mem_append.mp hz with hz | hz
      · exact RowIn.rest P N (hq.2.2.2.2.2.2 z (by rw [e]; simp [hz])) (hoth z (by simp [hz])) hsub
      · rcases List.mem_cons.mp hz with rfl | hz
        · refine ⟨⟨hsub _ P.hy, ⟨z1, z2, z3, z4, z5, z6, z7, z8, z9, z10, g3⟩, cth, ?_⟩, ⟨cf, _, g6, IntsAre.append P.hinv (.cons _ _ .nil)⟩, fun x hx => ?_⟩
          · simpa [thRefs] using g4
          · rcases List.mem_append.mp hx with hx | hx
            · obtain ⟨u1, u2, n, h⟩ := (hq.2.2.2.2.2.2 r hrm).2.2 x hx
              exact ⟨u1, u2, n, hsub _ (tup_rest P N h)⟩
            · obtain rfl := List.mem_singleton.mp hx
              exact ⟨v1, v2, v3, g5⟩
        · exact RowIn.rest P N (hq.2.2.2.2.2.2 z (by rw [e]; simp [hz])) (hoth z (by simp [hz])) hsub
  · show (q.dx :: q.x :: q.st :: q.ro :: q.fi :: la' :: (q.rows.set k _).flatMap adrR).Nodup
    rw [flatMap_set_same (r' := { r with octs := r.octs + size, things := r.things ++ [(D, size, thing)], fins := r.fins ++ [Fv] }) hr rfl]
    rcases hcase with ⟨_, _, _, hl⟩ | ⟨_, rfl, _⟩
    · have fresh : ∀ a ∈ adrQ q, @Ne Nat a la' := fun a ha => by
        obtain ⟨o, ho⟩ := adr_has hq a ha
        exact Nat.ne_of_lt (allLt_mem hl _ (hE _ ho))
      have h1 := hnd
      simp only [adrQ, List.nodup_cons, List.mem_cons, not_or] at h1 ⊢
      refine gl fun G9 hG9 => ?_
      obtain ⟨⟨d1, d2, d3, d4, d5, d6⟩, ⟨x1, x2, x3, x4, x5⟩, ⟨s1, s2, s3, s4⟩, ⟨r1, r2, r3⟩, ⟨f1, f2⟩, l1, n1⟩ := h1
      refine hG9 ?_
      clear hG9 G9
      refine ⟨⟨d1, d2, d3, d4, fresh _ (by simp [adrQ]), d6⟩, ⟨x1, x2, x3, fresh _ (by simp [adrQ]), x5⟩, ⟨s1, s2, fresh _ (by simp [adrQ]), s4⟩, ⟨r1, fresh _ (by simp [adrQ]), r3⟩, ⟨fresh _ (by simp [adrQ]), f2⟩, fun h => fresh la' (by simp only [adrQ, List.mem_cons, h, or_true]) rfl, n1⟩
    · exact hnd
  · intro a ha
    have ha : a ∈ q.dx :: q.x :: q.st :: q.ro :: q.fi :: la' :: (q.rows.set k _).flatMap adrR := ha
    rw [flatMap_set_same (r' := { r with octs := r.octs + size, things := r.things ++ [(D, size, thing)], fins := r.fins ++ [Fv] }) hr rfl] at ha
    rcases hcase with ⟨_, _, _, hl⟩ | ⟨_, rfl, _⟩
    · simp only [List.mem_cons] at ha
      rcases ha with h | h | h | h | h | h | h
      · exact .inl (by simp [adrQ, h])
      · exact .inl (by simp [adrQ, h])
      · exact .inl (by simp [adrQ, h])
      · exact .inl (by simp [adrQ, h])
      · exact .inl (by simp [adrQ, h])
      · exact .inr fun p hp => by rw [h]; exact Nat.ne_of_lt (allLt_mem hl _ (hE _ hp))
      · exact .inl (by simp only [adrQ, List.mem_cons, h, or_true])
    · exact .inl ha
  · intro p hp hnot
    refine hsub _ (restL_in hp fun hm => hnot ?_)
    have : p.1 ∈ fixL q r := by
      simp only [mutL, fixL, List.mem_cons, List.not_mem_nil, or_false] at hm ⊢
      rcases hm with h | h | h | h | h <;> simp [h]
    exact (adr_perm e).mem_iff.mpr (List.mem_append_left _ this)
end
end Part8
section Part9
theorem wo9 : True := by
  w_top off
  trivial
section
open PySem.SeqAt AutoSeq1 MeetsSeq MeetsSeq2 MeetsSeq3 SeqRoads2
noncomputable def ltPair (a b c d : Int) : Bool := if a = c then decide (b < d) else decide (a < c)
theorem lt_ints {prog : Program} {w : World} {A : Around} {x y : Int} {t u : Tok} {s : Shared} {Q E : Value → Shared → Prop} (h : Q (.bool (decide (x < y))) s) : wpAny (model prog w) A (richCompare .Lt (.int x t) (.int y u)) Q E s := by
  have W : CmpOf prog w A .Lt (fun i v => ∃ t, v = Value.int ([x, y].getD i 0) t) _ := CmpOf.ints_lt (fun i => [x, y].getD i 0) (fun i v h => h)
  exact W 0 1 _ _ s Q E ⟨t, rfl⟩ ⟨u, rfl⟩ h
set_option maxHeartbeats 4000000 in
theorem tuple_lt2 (l r : Addr) (a b c d : Int) (t1 t2 t3 t4 : Tok) (n n2 : Nat) (dd dd2 : Option Addr) (sl sl2 : Array (Option Value)) :
    Meets (Builtin.«tuple.__lt__» ⟨[.ref l, .ref r], []⟩)
      (fun A R s => s.heap.get? l = some { cls := .type "tuple", dict := dd, data := .seq #[.int a t1, .int b t2] n, slots := sl } ∧ s.heap.get? r = some { cls := .type "tuple", dict := dd2, data := .seq #[.int c t3, .int d t4] n2, slots := sl2 } ∧
        R (.ok (.ret (.bool (ltPair a b c d)))) s) :=
  .of_wp fun prog w A R s h => by
    refine gl fun G9 hG9 => ?_
    obtain ⟨hp, g, dI, tk, os⟩ := s; obtain ⟨hl, hb, h⟩ := h
    refine hG9 ?_
    clear hG9 G9
    have f2 := AutoSeq1.sub_tuple_tuple
    wp_walk using wpAny_loadPart' hl, wpAny_loadPart' hb, wpAny_forIn_list _ (fun rest b' s' => b'.1 = none ∧ s' = ⟨hp, g, dI, tk, os⟩ ∧ (rest = [(Value.int a t1, Value.int c t3), (Value.int b t2, Value.int d t4)] ∨ (a = c ∧ rest = [(Value.int b t2, Value.int d t4)]) ∨ (a = c ∧ b = d ∧ rest = []))) _
    case turn =>
      rintro ⟨x, y⟩ rest b' s' ⟨hb', rfl, hc⟩
      rcases hc with hc | ⟨e, hc⟩ | ⟨_, _, hc⟩
      · injection hc with h1 h2
        obtain ⟨rfl, rfl⟩ := Prod.mk.inj h1
        subst h2
        refine wpAny_bind (EqAt.int_int _ _ _ _ prog w _ _ ?_)
        by_cases e : a = c
        · have e' : (a == c) = true := by simpa using e
          rw [e']
          wp_walk
          exact ⟨rfl, rfl, .inr (.inl ⟨e, rfl⟩)⟩
        · have e' : (a == c) = false := by simpa using e
          have e2 : ltPair a b c d = decide (a < c) := by simp [ltPair, e]
          rw [e']
          rw [e2] at h
          wp_walk using lt_ints
          exact ⟨_, rfl, h⟩
      · injection hc with h1 h2
        obtain ⟨rfl, rfl⟩ := Prod.mk.inj h1
        subst h2
        refine wpAny_bind (EqAt.int_int _ _ _ _ prog w _ _ ?_)
        by_cases e3 : b = d
        · have e' : (b == d) = true := by simpa using e3
          rw [e']
          wp_walk
          exact ⟨rfl, rfl, .inr (.inr ⟨e, e3, rfl⟩)⟩
        · have e' : (b == d) = false := by simpa using e3
          have e2 : ltPair a b c d = decide (b < d) := by simp [ltPair, e]
          rw [e']
          rw [e2] at h
          wp_walk using lt_ints
          exact ⟨_, rfl, h⟩
      · cases hc
    case fin =>
      rintro ⟨b1, b2⟩ s' ⟨hb', rfl, hc⟩
      simp only at hb'
      subst hb'
      rcases hc with hc | ⟨_, hc⟩ | ⟨e1, e2, _⟩
      · cases hc
      · cases hc
      · have e3 : ltPair a b c d = false := by simp [ltPair, e1, e2]
        rw [e3] at h
        wp_walk
        exact ⟨_, rfl, h⟩
    all_goals exact ⟨rfl, rfl, .inl rfl⟩
theorem lt_tups {prog : Program} {w : World} {A : Around} {s : Shared} {Q E : Value → Shared → Prop} {l r : Addr} {a b c d : Int} {t1 t2 t3 t4 : Tok} {n n2 : Nat}
    (hl : s.heap.get? l = some (tupO [.int a t1, .int b t2] n)) (hr : s.heap.get? r = some (tupO [.int c t3, .int d t4] n2)) (hu : A.units < cLine) (h : Q (.bool (ltPair a b c d)) s) :
    wpAny (model prog w) A (richCompare .Lt (.ref l) (.ref r)) Q E s :=
  richCompare_meets_room (op := .Lt) ⟨_, hl, rfl⟩ ⟨_, hr, rfl⟩ F.slot_tuple_lt F.entry_tuple_lt (F.args_tuple_lt_2 _ _) (tuple_lt2 l r a b c d t1 t2 t3 t4 n n2 none none #[] #[])
    ⟨hl, hr, show Value.bool _ ≠ Value.notImplemented ∧ Q (.bool _) s from ⟨(fun x => nomatch x), h⟩⟩ hu
/-- objects that the loop of min leaves alone -/
noncomputable def TupAt (f g : Nat → Int) (ad : Nat → Addr) (n : Nat) (h : Heap) : Prop := ∀ i, i < n → ∃ t1 t2 m, h.get? (ad i) = some (tupO [.int (f i) t1, .int (g i) t2] m)
noncomputable abbrev btT (f g : Nat → Int) (i j : Nat) : Bool := ltPair (f i) (g i) (f j) (g j)
theorem argBest_le (bt : Nat → Nat → Bool) : ∀ j, argBest bt j ≤ j
  | 0 => Nat.le_refl _
  | j + 1 => by
    simp only [argBest]
    split
    · exact Nat.le_refl _
    · exact Nat.le_succ_of_le (argBest_le bt j)
section
variable {prog : Program} {w : World} {A : Around} {E : Value → Shared → Prop} {s : Shared} {h₀ : Heap} {L l I S : Addr} {m : Str → Option Value} {news : List (Addr × Obj)} {vs : List Value} {R : Result → Shared → Prop} {Q : Value → Shared → Prop} {f g : Nat → Int} {ad : Nat → Addr}
theorem minT_loop (hh : A.handled = none) (hu : A.in1.units < cLine) (hlI : l ≠ I) (hSI : S ≠ I) (hSl : S ≠ l) (hv : ∀ (i : Nat) (v : Value), vs[i]? = some v → v = Value.ref (ad i)) (haI : ∀ i, i < vs.length → ad i ≠ I) (haS : ∀ i, i < vs.length → ad i ≠ S) :
    ∀ (k j : Nat) (s : Shared) (vb : Value) (c : Nat), vs.length - (j + 1) = k → j + 1 ≤ vs.length → s.heap.IsListIter I l (j + 1) → s.heap.IsList l vs.toArray → vs[argBest (btT f g) j]? = some vb → TupAt f g ad vs.length s.heap →
    s.heap.get? S = some { cls := .type "list", dict := none, data := .seq #[vb, vb] c, slots := #[] } →
    (∀ v h' tk, vs[argBest (btT f g) (vs.length - 1)]? = some v → (∀ b o, b ≠ I → b ≠ S → s.heap.get? b = some o → h'.get? b = some o) → R (.ok (.ret v)) { s with heap := h', toks := tk }) →
    codeAny (model prog w) A (.builtin "min.loop" ⟨[.ref I, .none, .ref S], []⟩) R s := by
  have hname : (toString "min" ++ toString ".loop" : String) = "min.loop" := by decide
  have W := Walks.list (prog := prog) (w := w) (A := A.in1) hh I l hlI vs.toArray
  have hsz : vs.toArray.size = vs.length := List.size_toArray ..
  have keepT : ∀ h h' : Heap, (∀ b o, b ≠ I → b ≠ S → h.get? b = some o → h'.get? b = some o) → TupAt f g ad vs.length h → TupAt f g ad vs.length h' := fun h h' hk hT i hi => by
    refine gl fun G9 hG9 => ?_
    obtain ⟨t1, t2, m, e⟩ := hT i hi
    refine hG9 ?_
    clear hG9 G9
    exact ⟨t1, t2, m, hk _ _ (haI i hi) (haS i hi) e⟩
  intro k
  induction k with
  | zero =>
    intro j s vb c hk hj hit hls hvb hT hS hR
    have hin : j + 1 = vs.length := by omega
    refine codeAny_builtin PySem.F.entry_min_loop ?_
    rw [Around.under_plainId PySem.F.plain_min_loop _]
    show wpAny _ A.in1 (seqItems? (.ref S) >>= _) _ _ s
    refine wpAny_bind (wpAny_seqItems hS rfl ?_)
    show wpAny _ A.in1 (tryCatch (pyNext (.ref I)) _ >>= _) _ _ s
    refine wpAny_bind (wpAny_tryCatch (W.done s _ _ ⟨by rw [hsz, ← hin]; exact hit, hls⟩ fun h' tk hk' => ?_))
    have hS' := hk' S _ (by simpa using hSI) hS
    show wpAny _ A.in1 (updateSeq S (fun _ => #[]) >>= _) _ _ _
    refine wpAny_bind ?_
    refine wpAny_updateSeq hS' rfl (wpAny_bind (wpAny_letGo (wpAny_pure ?_)))
    refine hR vb _ tk (by rw [← hin]; exact hvb) fun b o hbw hbS e => (Heap.get?_update_other _ _ (Ne.symm hbS)).trans (hk' b o (by simpa using hbw) e)
  | succ k ih =>
    intro j s vb c hk hj hit hls hvb hT hS hR
    have hlt : j + 1 < vs.length := by omega
    refine codeAny_builtin PySem.F.entry_min_loop ?_
    rw [Around.under_plainId PySem.F.plain_min_loop _]
    show wpAny _ A.in1 (seqItems? (.ref S) >>= _) _ _ s
    refine wpAny_bind (wpAny_seqItems hS rfl ?_)
    show wpAny _ A.in1 (tryCatch (pyNext (.ref I)) _ >>= _) _ _ s
    refine wpAny_bind (wpAny_tryCatch (W.item (j + 1) s _ _ (by rw [hsz]; exact hlt) ⟨hit, hls⟩ fun v h' tk hP hst' hk' => ?_))
    have hv' : vs[j + 1]? = some v := by simpa using hP
    have hk1 : ∀ b o, b ≠ I → b ≠ S → s.heap.get? b = some o → h'.get? b = some o := fun b o hb _ e => hk' b o (by simpa using hb) e
    have hS' := hk' S _ (by simpa using hSI) hS
    have hT' := keepT _ _ hk1 hT
    have e1 := hv _ _ hv'
    have e2 := hv _ _ hvb
    subst e1 e2
    refine gl fun G9 hG9 => ?_
    obtain ⟨a1, a2, a3, a4⟩ := hT' (j + 1) hlt
    refine hG9 ?_
    clear hG9 G9
    refine gl fun G9 hG9 => ?_
    obtain ⟨b1, b2, b3, b4⟩ := hT' (argBest (btT f g) j) (Nat.lt_of_le_of_lt (argBest_le _ j) (by omega))
    refine hG9 ?_
    clear hG9 G9
    show wpAny _ A.in1 (tryCatch (holding [_, _] (richCompare .Lt _ _ >>= _)) _ >>= _) _ _ _
    refine wpAny_bind (wpAny_tryCatch (wpAny_holding (wpAny_bind (lt_tups a4 b4 hu ?_))))
    refine wpAny_bind (wpAny_holding (wpAny_truthy_bool ?_))
    refine wpAny_bind (wpAny_letGo (wpAny_pure ?_))
    cases hb : btT f g (j + 1) (argBest (btT f g) j) with
    | true =>
      have hb' : ltPair (f (j + 1)) (g (j + 1)) (f (argBest (btT f g) j)) (g (argBest (btT f g) j)) = true := hb
      simp only [hb', if_true]
      refine wpAny_bind ?_
      refine wpAny_updateSeq hS' rfl (wpAny_bind (wpAny_letGo ?_))
      rw [hname]
      refine gl fun G9 hG9 => ?_
      obtain ⟨⟨oI, q1, q2, q3⟩, q4⟩ := hst'
      refine hG9 ?_
      clear hG9 G9
      refine wpAny_pure ⟨plainId_quiet PySem.F.plain_min_loop _, ih (j + 1) _ _ _ (by omega) hlt ⟨oI, (Heap.get?_update_other _ _ hSI).trans q1, q2, q3⟩ ?_ (by simp only [argBest, hb, if_true]; exact hv') (keepT _ _ (fun b o hbI hbS e => (Heap.get?_update_other _ _ (Ne.symm hbS)).trans e) hT') (Heap.get?_update_self _ hS' rfl)
        fun v' h'' tk'' hP' hk'' => ?_⟩
      · obtain ⟨o, w1, w2⟩ := q4
        exact ⟨o, (Heap.get?_update_other _ _ hSl).trans w1, w2⟩
      · exact hR v' h'' tk'' hP' fun b o hbw hbS e => hk'' b o hbw hbS ((Heap.get?_update_other _ _ (Ne.symm hbS)).trans (hk1 b o hbw hbS e))
    | false =>
      have hb' : ltPair (f (j + 1)) (g (j + 1)) (f (argBest (btT f g) j)) (g (argBest (btT f g) j)) = false := hb
      simp only [hb', Bool.false_eq_true, if_false]
      refine wpAny_bind (wpAny_letGo ?_)
      rw [hname]
      refine wpAny_pure ⟨plainId_quiet PySem.F.plain_min_loop _, ih (j + 1) _ _ c (by omega) hlt hst'.1 hst'.2 (by simp only [argBest, hb, Bool.false_eq_true, if_false]; exact hvb) hT' hS' fun v' h'' tk'' hP' hk'' => ?_⟩
      exact hR v' h'' tk'' hP' fun b o hbw hbS e => hk'' b o hbw hbS (hk1 b o hbw hbS e)
theorem minT_first (hh : A.handled = none) (hu : A.in1.units < cLine) (hlI : l ≠ I) (hSI : S ≠ I) (hSl : S ≠ l) (hv : ∀ (i : Nat) (v : Value), vs[i]? = some v → v = Value.ref (ad i)) (haI : ∀ i, i < vs.length → ad i ≠ I) (haS : ∀ i, i < vs.length → ad i ≠ S) (hn : 0 < vs.length) {c : Nat}
    (hit : s.heap.IsListIter I l 0) (hls : s.heap.IsList l vs.toArray) (hT : TupAt f g ad vs.length s.heap)
    (hS : s.heap.get? S = some { cls := .type "list", dict := none, data := .seq #[] c, slots := #[] })
    (hR : ∀ v h' tk, vs[argBest (btT f g) (vs.length - 1)]? = some v → (∀ b o, b ≠ I → b ≠ S → s.heap.get? b = some o → h'.get? b = some o) → R (.ok (.ret v)) { s with heap := h', toks := tk }) :
    codeAny (model prog w) A (.builtin "min.loop" ⟨[.ref I, .none, .ref S], []⟩) R s := by
  have hname : (toString "min" ++ toString ".loop" : String) = "min.loop" := by decide
  have W := Walks.list (prog := prog) (w := w) (A := A.in1) hh I l hlI vs.toArray
  have hsz : vs.toArray.size = vs.length := List.size_toArray ..
  refine codeAny_builtin PySem.F.entry_min_loop ?_
  rw [Around.under_plainId PySem.F.plain_min_loop _]
  show wpAny _ A.in1 (seqItems? (.ref S) >>= _) _ _ s
  refine wpAny_bind (wpAny_seqItems hS rfl ?_)
  show wpAny _ A.in1 (tryCatch (pyNext (.ref I)) _ >>= _) _ _ s
  refine wpAny_bind (wpAny_tryCatch (W.item 0 s _ _ (by rw [hsz]; exact hn) ⟨hit, hls⟩ fun v h' tk hP hst' hk' => ?_))
  have hv' : vs[0]? = some v := by simpa using hP
  have hS' := hk' S _ (by simpa using hSI) hS
  show wpAny _ A.in1 (updateSeq S (fun _ => #[v, v]) >>= _) _ _ _
  refine wpAny_bind ?_
  refine wpAny_updateSeq hS' rfl ?_
  rw [hname]
  refine gl fun G9 hG9 => ?_
  obtain ⟨⟨oI, q1, q2, q3⟩, o, w1, w2⟩ := hst'
  refine hG9 ?_
  clear hG9 G9
  refine wpAny_pure ⟨plainId_quiet PySem.F.plain_min_loop _, minT_loop (f := f) (g := g) hh hu hlI hSI hSl hv haI haS _ 0 _ v _ rfl hn ⟨oI, (Heap.get?_update_other _ _ hSI).trans q1, q2, q3⟩ ⟨o, (Heap.get?_update_other _ _ hSl).trans w1, w2⟩ hv' (fun i hi => ?_) (Heap.get?_update_self _ hS' rfl) fun v' h'' tk'' hP' hk'' => ?_⟩
  · obtain ⟨t1, t2, m, e⟩ := hT i hi
    exact ⟨t1, t2, m, (Heap.get?_update_other _ _ (Ne.symm (haS i hi))).trans (hk' _ _ (by simpa using haI i hi) e)⟩
  · exact hR v' h'' tk'' hP' fun b o hbw hbS e => hk'' b o hbw hbS ((Heap.get?_update_other _ _ (Ne.symm hbS)).trans (hk' b o (by simpa using hbw) e))
/-- min of a list of pairs of whole numbers -/
theorem my_minT {c : Nat} (hh : A.handled = none) (hu : A.in1.units < cLine) (F : Fr h₀ L s.heap m) (N : News h₀ L s.heap news) (hm : (l, listOf vs.toArray c) ∈ news) (hn : 0 < vs.length)
    (hv : ∀ (i : Nat) (v : Value), vs[i]? = some v → v = Value.ref (ad i)) (hT : ∀ i, i < vs.length → ∃ t1 t2 m, (ad i, tupO [.int (f i) t1, .int (g i) t2] m) ∈ news)
    (h : ∀ v h' tk, vs[argBest (btT f g) (vs.length - 1)]? = some v → Fr h₀ L h' m → News h₀ L h' news → Q v { s with heap := h', toks := tk }) :
    wpAny (model prog w) A (call (.builtin "min") [.ref l]) Q E s := by
  have hname : (toString "min" ++ toString ".loop" : String) = "min.loop" := by decide
  have hl : s.heap.IsList l vs.toArray := PySem.IsL.isList (n := c) (N _ hm).1
  refine call_function_tree PySem.F.kind_min PySem.F.plain_min PySem.F.entry_min (PySem.F.args_min1 _) ?_
  show wpAny _ A.in1 (Builtin.Builtins.bindParams "min" ["key", "default"] 0 ⟨[], []⟩ >>= _) _ _ s
  refine wpAny_bind (wpAny_of_eq (show Builtin.Builtins.bindParams "min" ["key", "default"] 0 ⟨[], []⟩ = pure [none, none] from rfl) ?_)
  refine wpAny_bind (wpAny_pure ?_)
  refine wpAny_bind (wpAny_pyIter_list hl ?_)
  refine wpAny_bind (wpAny_newObj_type ?_)
  rw [hname]
  have hlt : l < s.heap.objs.size := Heap.lt_size (N _ hm).1
  have hS : (s.heap.push { cls := .type "list_iterator", data := .fields #[.ref l, .int 0 0] }).objs.size = s.heap.objs.size + 1 := size_push' ..
  have hSI : (s.heap.push { cls := .type "list_iterator", data := .fields #[.ref l, .int 0 0] }).objs.size ≠ s.heap.objs.size := by rw [hS]; exact Nat.ne_of_gt (Nat.lt_succ_self _)
  have hSl : (s.heap.push { cls := .type "list_iterator", data := .fields #[.ref l, .int 0 0] }).objs.size ≠ l := by rw [hS]; exact Nat.ne_of_gt (Nat.lt_succ_of_lt hlt)
  have hal : ∀ i, i < vs.length → ad i < s.heap.objs.size := fun i hi => by
    refine gl fun G9 hG9 => ?_
    obtain ⟨_, _, _, e⟩ := hT i hi
    refine hG9 ?_
    clear hG9 G9
    exact Heap.lt_size (N _ e).1
  have kp : ∀ b o, s.heap.get? b = some o → ((s.heap.push { cls := .type "list_iterator", data := .fields #[.ref l, .int 0 0] }).push { cls := .type "list", data := .seq #[] }).get? b = some o := fun b o e => Heap.get?_push_of_some _ (Heap.get?_push_of_some _ e)
  refine wpAny_pure ⟨plainId_quiet PySem.F.plain_min_loop _, minT_first (f := f) (g := g) (ad := ad) (vs := vs) (l := l) hh hu (Nat.ne_of_lt hlt) hSI hSl hv (fun i hi => Nat.ne_of_lt (hal i hi)) (fun i hi => by rw [hS]; exact Nat.ne_of_lt (Nat.lt_succ_of_lt (hal i hi))) hn ⟨_, Heap.get?_push_of_some _ (Heap.get?_push_size _ rfl), rfl, rfl⟩ ((hl.push _).push _) (fun i hi => ?_) (Heap.get?_push_size _ rfl) fun v h' tk hP hk => ?_⟩
  · obtain ⟨t1, t2, m, e⟩ := hT i hi
    exact ⟨t1, t2, m, kp _ _ (N _ e).1⟩
  · have hk' : ∀ b o, s.heap.get? b = some o → h'.get? b = some o := fun b o e => hk b o (Nat.ne_of_lt (Heap.lt_size e)) (by rw [hS]; exact Nat.ne_of_lt (Nat.lt_succ_of_lt (Heap.lt_size e))) (kp b o e)
    exact h v h' tk hP (F.keeps hk') (N.grown hk')
end
end
end Part9
theorem ln10 : True := by
  k_with "my eval Call" => (k_fold; k_dflt walk1)
  k_with "my eval Call Attribute" => (k_fold; k_dflt walk1)
  k_with "my isTrue BoolOp" => (k_fold; walk1)
  k_with "my isTrue Compare" => (k_fold; walk1)
  trivial
section Part10
theorem wo10 : True := by
  w_top off
  trivial
noncomputable def AllowV (news : List (Addr × Obj)) (av : Value) (al : Option Int) : Prop := (av = .none ∧ al = none) ∨ ∃ a z c u, al = some z ∧ av = .ref a ∧ (a, listOf #[.int z u] c) ∈ news
noncomputable def goB (r : Row) (al : Option Int) (k : Nat) : Bool := !r.things.isEmpty && match al with
  | none => true
  | some z => z == (k : Int)
theorem my_in {prog : Program} {w : World} {A : Around} {E : Value → Shared → Prop} {s : Shared} {h₀ : Heap} {L aa : Addr} {news : List (Addr × Obj)} {k z : Int} {t u : Tok} {c : Nat} {Q : Value → Shared → Prop} (N : News h₀ L s.heap news) (hm : (aa, listOf #[.int z u] c) ∈ news)
    (h : Q (.bool (z == k)) s) : wpAny (model prog w) A (compareOp .In (.int k t) (.ref aa)) Q E s := by
  refine PySem.SeqAt.in_listAt (items := #[.int z u]) (fun v => match v with | .int y _ => y == k | _ => false) (PySem.IsL.isList (n := c) (N _ hm).1) (fun y hy => ?_) ?_
  · obtain rfl : y = .int z u := by simpa using hy
    exact EqAt.int_int _ _ _ _
  · simpa using h
section
variable {prog : Program} {w : World} {p : Program} {loose : List Str} {mean : ExcName → Option Value} {mg mb : Str → Option Value}
    {dp un : Nat} {gd : Option (List Code)} {cn : Str} {cs : Scope} {a : Addr} {ccd : Value} {cl : List (Str × Addr)} {outer : List Env} {A₀ : Around} {base h₀ : Heap} {L : Addr} {m : Str → Option Value} {s : Shared} {Q E : Value → Shared → Prop}
    {news : List (Addr × Obj)}
set_option maxHeartbeats 4000000 in
theorem may_none {ro : Addr} {rows : List Row} {c : Nat} {k : Nat} {t : Tok} {r : Row}
    (B : Below A₀ base outer h₀) (F : Fr h₀ L s.heap m) (X : (hK w.params).In h₀) (T : Top p loose mean mg mb h₀) (hk : cs.kind = .function) (N : News h₀ L s.heap news) (hro : (ro, listOf (rows.map fun r => Value.ref r.y).toArray c) ∈ news) (hr : rows[k]? = some r) (hW : RowY w news r) (hkl : k < 100)
    (hdp : dp + 9 < recursionLimit) (hun : un + 90 < cLine)
    (ret : ∀ h' tk', Fr h₀ L h' m → News h₀ L h' news → Q (.bool (goB r none k)) { s with heap := h', toks := tk' }) :
    wpAny (model prog w) (ktrTop dp un gd cn cs L a ccd cl outer) (call (.ref 117) [.ref ro, .int (k : Int) t, .none]) Q E s := by
  have kf : (fun (_ : OpenLaw) (_ : Params → Frag) => True) PySem.Challenge.rw_pc0369_01 hK := by k_fill; trivial
  clear kf
  have hb9 : Base s := ⟨⟩
  have hi : (rows.map fun r => Value.ref r.y)[((k : Int)).toNat]? = some (.ref r.y) := by simp [hr]
  have hb : goB r none k = !r.things.isEmpty := by simp [goB]
  rw [hb] at ret
  have he : r.things.isEmpty = (thRefs r).isEmpty := by simp [thRefs]
  rw [he] at ret
  refine gl fun G9 hG9 => ?_
  obtain ⟨ry, ⟨a1, a2, a3, a4, a5, b1, b2, b3, b4, b5, rd⟩, c9, rt⟩ := hW
  refine hG9 ?_
  clear hG9 G9
  generalize thRefs r = tv at *
  refine wpAny_call ?_
  k_dflt (refine' code_def ?k1 ?k2 ?k3 ?k4 ?k5 ?kA ?kF ?kK ?k6 ?k7 ?k8 ?k9 ?kB ?_ ?c2 ?c3 ?c4 ?c5; (case kA => exact rfl); (case kF => exact rfl); (case kK => assumption); (case k1 => k_asm); (case k2 => k_asm); (case k3 => k_asm); (case k4 => k_asm); (case k5 => k_asm); (case k6 => k_is); (case k7 => k_is); (case k8 => k_room); (case k9 => first | exact BindsTo.of_eq rfl | exact binds_K (by k_in) rfl (by k_is) rfl rfl rfl); (case c5 => decide); (case kB => exact locs rfl); (case c2 => exact rfl); (case c3 => exact rfl); (case c4 => exact rfl); k_whole)
  intro g1 L1 h1 FG1 F1 N1 B1 X1 T1
  (try dsimp only); (try k_lift B1); (try k_fold)
  replace F1 := fr_open F1
  obtain ⟨m1, F1, em1⟩ := F1
  refine letMA ?_
  intro M9 A9
  cases htv : tv.isEmpty with
  | true =>
    rw [htv] at ret
    k_steps
    rw [htv]
    exact ret _ _ (by k_asm) (by first | k_asm | exact cb_drop (by assumption) (fun p hp => List.mem_cons_of_mem _ hp))
  | false =>
    rw [htv] at ret
    k_steps
    exact ret _ _ (by k_asm) (by first | k_asm | exact cb_drop (by assumption) (fun p hp => List.mem_cons_of_mem _ hp))
end
section
variable {prog : Program} {w : World} {p : Program} {loose : List Str} {mean : ExcName → Option Value} {mg mb : Str → Option Value}
    {dp un : Nat} {gd : Option (List Code)} {cn : Str} {cs : Scope} {a : Addr} {ccd : Value} {cl : List (Str × Addr)} {outer : List Env} {A₀ : Around} {base h₀ : Heap} {L : Addr} {m : Str → Option Value} {s : Shared} {Q E : Value → Shared → Prop}
    {news : List (Addr × Obj)}
set_option maxHeartbeats 4000000 in
theorem may_some {ro aa : Addr} {rows : List Row} {c c2 : Nat} {k : Nat} {z : Int} {t u : Tok} {r : Row}
    (B : Below A₀ base outer h₀) (F : Fr h₀ L s.heap m) (X : (hK w.params).In h₀) (T : Top p loose mean mg mb h₀) (hk : cs.kind = .function) (N : News h₀ L s.heap news) (hro : (ro, listOf (rows.map fun r => Value.ref r.y).toArray c) ∈ news) (hr : rows[k]? = some r) (hW : RowY w news r) (hkl : k < 100) (haa : (aa, listOf #[.int z u] c2) ∈ news)
    (hdp : dp + 9 < recursionLimit) (hun : un + 90 < cLine)
    (ret : ∀ h' tk', Fr h₀ L h' m → News h₀ L h' news → Q (.bool (goB r (some z) k)) { s with heap := h', toks := tk' }) :
    wpAny (model prog w) (ktrTop dp un gd cn cs L a ccd cl outer) (call (.ref 117) [.ref ro, .int (k : Int) t, .ref aa]) Q E s := by
  have kf : (fun (_ : OpenLaw) (_ : Params → Frag) => True) PySem.Challenge.rw_pc0369_01 hK := by k_fill; trivial
  clear kf
  have hb9 : Base s := ⟨⟩
  have hi : (rows.map fun r => Value.ref r.y)[((k : Int)).toNat]? = some (.ref r.y) := by simp [hr]
  have hb : goB r (some z) k = (!r.things.isEmpty && z == (k : Int)) := by simp [goB]
  rw [hb] at ret
  have he : r.things.isEmpty = (thRefs r).isEmpty := by simp [thRefs]
  rw [he] at ret
  refine gl fun G9 hG9 => ?_
  obtain ⟨ry, ⟨a1, a2, a3, a4, a5, b1, b2, b3, b4, b5, rd⟩, c9, rt⟩ := hW
  refine hG9 ?_
  clear hG9 G9
  generalize thRefs r = tv at *
  refine wpAny_call ?_
  k_dflt (refine' code_def ?k1 ?k2 ?k3 ?k4 ?k5 ?kA ?kF ?kK ?k6 ?k7 ?k8 ?k9 ?kB ?_ ?c2 ?c3 ?c4 ?c5; (case kA => exact rfl); (case kF => exact rfl); (case kK => assumption); (case k1 => k_asm); (case k2 => k_asm); (case k3 => k_asm); (case k4 => k_asm); (case k5 => k_asm); (case k6 => k_is); (case k7 => k_is); (case k8 => k_room); (case k9 => first | exact BindsTo.of_eq rfl | exact binds_K (by k_in) rfl (by k_is) rfl rfl rfl); (case c5 => decide); (case kB => exact locs rfl); (case c2 => exact rfl); (case c3 => exact rfl); (case c4 => exact rfl); k_whole)
  intro g1 L1 h1 FG1 F1 N1 B1 X1 T1
  (try dsimp only); (try k_lift B1); (try k_fold)
  replace F1 := fr_open F1
  obtain ⟨m1, F1, em1⟩ := F1
  refine letMA ?_
  intro M9 A9
  cases htv : tv.isEmpty with
  | true =>
    rw [htv] at ret
    k_steps
    rw [htv]
    exact ret _ _ (by k_asm) (by first | k_asm | exact cb_drop (by assumption) (fun p hp => List.mem_cons_of_mem _ hp))
  | false =>
    rw [htv] at ret
    k_steps
    refine my_in (by k_asm) (by k_mem) ?_
    k_steps
    all_goals exact ret _ _ (by k_asm) (by first | k_asm | exact cb_drop (by assumption) (fun p hp => List.mem_cons_of_mem _ hp))
end
end Part10
section Part11
theorem wo11 : True := by
  w_top off
  trivial
section
variable {prog : Program} {w : World} {p : Program} {loose : List Str} {mean : ExcName → Option Value} {mg mb : Str → Option Value}
    {dp un : Nat} {gd : Option (List Code)} {cn : Str} {cs : Scope} {a : Addr} {ccd : Value} {cl : List (Str × Addr)} {outer : List Env} {A₀ : Around} {base h₀ : Heap} {L : Addr} {m : Str → Option Value} {s : Shared} {Q E : Value → Shared → Prop}
    {news : List (Addr × Obj)}
theorem may_c {ro : Addr} {rows : List Row} {c : Nat} {k : Nat} {t : Tok} {r : Row} {av : Value} {al : Option Int}
    (B : Below A₀ base outer h₀) (F : Fr h₀ L s.heap m) (X : (hK w.params).In h₀) (T : Top p loose mean mg mb h₀) (hk : cs.kind = .function) (N : News h₀ L s.heap news) (hro : (ro, listOf (rows.map fun r => Value.ref r.y).toArray c) ∈ news) (hr : rows[k]? = some r) (hW : RowY w news r) (hkl : k < 100) (hav : AllowV news av al)
    (hdp : dp + 9 < recursionLimit) (hun : un + 90 < cLine)
    (ret : ∀ h' tk', Fr h₀ L h' m → News h₀ L h' news → Q (.bool (goB r al k)) { s with heap := h', toks := tk' }) :
    wpAny (model prog w) (ktrTop dp un gd cn cs L a ccd cl outer) (call (.ref 117) [.ref ro, .int (k : Int) t, av]) Q E s := by
  rcases hav with ⟨rfl, rfl⟩ | ⟨aa, z, c2, u, rfl, rfl, haa⟩
  · exact may_none B F X T hk N hro hr hW hkl hdp hun ret
  · exact may_some B F X T hk N hro hr hW hkl haa hdp hun ret
end
theorem AllowV.mono {news news' : List (Addr × Obj)} {av : Value} {al : Option Int} (h : AllowV news av al) (hs : ∀ p ∈ news, p ∈ news') : AllowV news' av al := by
  rcases h with h | ⟨aa, z, c2, u, h1, h2, h3⟩
  · exact .inl h
  · exact .inr ⟨aa, z, c2, u, h1, h2, hs _ h3⟩
noncomputable def goQ (q : WFq) (al : Option Int) (k : Nat) : Bool := match q.rows[k]? with
  | some r => goB r al k
  | none => false
noncomputable def cands (q : WFq) (al : Option Int) : List Nat := (List.range q.rows.length).filter (goQ q al)
noncomputable def headF (q : WFq) (k : Nat) : Int := match q.rows[k]? with
  | some r => r.fins.headD 0
  | none => 0
noncomputable def Best (q : WFq) (al : Option Int) (k : Nat) : Prop := k ∈ cands q al ∧ ∀ j ∈ cands q al, headF q k < headF q j ∨ (headF q k = headF q j ∧ k ≤ j)
theorem ltPair_iff {a b c d : Int} : ltPair a b c d = true ↔ a < c ∨ (a = c ∧ b < d) := by
  unfold ltPair
  split
  · simp; omega
  · simp; omega
theorem argBest_least (f g : Nat → Int) : ∀ n j, j ≤ n → f (argBest (btT f g) n) < f j ∨ (f (argBest (btT f g) n) = f j ∧ g (argBest (btT f g) n) ≤ g j)
  | 0, j, h => by
    obtain rfl : j = 0 := by omega
    exact .inr ⟨rfl, Int.le_refl _⟩
  | n + 1, j, h => by
    simp only [argBest]
    cases hb : btT f g (n + 1) (argBest (btT f g) n) with
    | true =>
      simp only [if_true]
      rw [ltPair_iff] at hb
      by_cases e : j = n + 1
      · subst e; exact .inr ⟨rfl, Int.le_refl _⟩
      · have := argBest_least f g n j (by omega)
        omega
    | false =>
      simp only [Bool.false_eq_true, if_false]
      have hb' : ¬ (f (n + 1) < f (argBest (btT f g) n) ∨ (f (n + 1) = f (argBest (btT f g) n) ∧ g (n + 1) < g (argBest (btT f g) n))) := fun hh => by
        have := ltPair_iff.mpr hh
        rw [show ltPair _ _ _ _ = false from hb] at this; cases this
      by_cases e : j = n + 1
      · subst e; omega
      · exact argBest_least f g n j (by omega)
theorem ln11 : True := by
  k_with "my call ref" => ((fail_if_success (k_extra "off28")); (k_here; refine hold_ref [117] rfl ?_))
  trivial
noncomputable def PairsJ (F G : Nat → Int) (nw0 : List (Addr × Obj)) (i : Nat) (ys : List Value) (nw : List (Addr × Obj)) : Prop :=
  (∀ p ∈ nw0, p ∈ nw) ∧ ∃ ts : List Addr, ts.length = i ∧ ys = ts.map (fun a => Value.ref a) ∧ ∀ j, j < i → ∃ t1 t2 m, (ts.getD j 0, tupO [.int (F j) t1, .int (G j) t2] m) ∈ nw
theorem pairs_nil {F G : Nat → Int} {nw0 : List (Addr × Obj)} : PairsJ F G nw0 0 [] nw0 := ⟨fun _ h => h, [], rfl, rfl, fun j hj => absurd hj (Nat.not_lt_zero _)⟩
theorem pairs_step {F G : Nat → Int} {h₀ h' : Heap} {L I C D l : Addr} {m : Str → Option Value} {s₁ : Shared} {oI oC oD : Obj} {S : List (Addr × Obj) → Prop} {tk : Nat} {nw0 nw : List (Addr × Obj)} {i : Nat} {ys : List Value} {c : Nat} {a b : Int} {t1 t2 : Tok}
    (Fr' : Fr h₀ L h' m) (N : News h₀ L h' ((l, tupO [.int a t1, .int b t2] c) :: (I, oI) :: (C, oC) :: (D, oD) :: nw)) (J : PairsJ F G nw0 i ys nw) (off : LCg.Off3 I C D nw) (hl0 : @LT.lt Nat _ I l ∧ @LT.lt Nat _ C l ∧ @LT.lt Nat _ D l ∧ AllLt l nw) (hS : ∀ nw', (∀ p ∈ nw, p ∈ nw') → S nw') (ha : a = F i) (hb : b = G i) :
    LCg.CompEnd h₀ L m s₁ I oI C oC D oD S (fun y news' => PairsJ F G nw0 (i + 1) (ys ++ [y]) news') (.ref l) { s₁ with heap := h', toks := tk } := by
  refine gl fun G9 hG9 => ?_
  obtain ⟨hsub, ts, e1, e2, e3⟩ := J
  refine hG9 ?_
  clear hG9 G9
  refine gl fun G9 hG9 => ?_
  obtain ⟨hI, hC, hD, hal⟩ := hl0
  refine hG9 ?_
  clear hG9 G9
  have sub : ∀ p ∈ nw, p ∈ (l, tupO [.int a t1, .int b t2] c) :: nw := fun p hp => by simp [hp]
  refine LCg.CompEnd.intro Fr' N ((l, tupO [.int a t1, .int b t2] c) :: nw) ?_ ?_ (hS _ sub) ?_
  · intro p hp
    simp only [List.mem_cons] at hp ⊢
    rcases hp with h | h | h | h | h <;> simp [h]
  · have g1 : (@Ne Nat l I) ∧ (@Ne Nat l C) ∧ (@Ne Nat l D) := by omega
    exact ⟨g1, off⟩
  · refine ⟨fun p hp => sub p (hsub p hp), ts ++ [l], by simp [e1], by simp [e2], fun j hj => ?_⟩
    by_cases hji : j = i
    · subst hji ha hb
      refine ⟨t1, t2, c, ?_⟩
      have : (ts ++ [l]).getD j 0 = l := by simp [← e1]
      rw [this]; simp
    · obtain ⟨u1, u2, mm, h⟩ := e3 j (by omega)
      refine ⟨u1, u2, mm, ?_⟩
      have : (ts ++ [l]).getD j 0 = ts.getD j 0 := by
        have hj' : j < ts.length := by omega
        simp [List.getElem?_append_left hj']
      rw [this]; exact sub _ h
section
variable {prog : Program} {w : World} {p : Program} {loose : List Str} {mean : ExcName → Option Value} {mg mb : Str → Option Value}
    {dp un : Nat} {gd : Option (List Code)} {cn : Str} {cs : Scope} {a : Addr} {ccd : Value} {cl : List (Str × Addr)} {outer : List Env} {A₀ : Around} {base h₀ : Heap} {L : Addr} {m : Str → Option Value} {s : Shared} {Q E : Value → Shared → Prop}
    {news : List (Addr × Obj)}
set_option maxHeartbeats 4000000 in
theorem look_c {q : WFq} {av : Value} {al : Option Int}
    (B : Below A₀ base outer h₀) (F : Fr h₀ L s.heap m) (X : (hK w.params).In h₀) (T : Top p loose mean mg mb h₀) (hk : cs.kind = .function) (N : News h₀ L s.heap news) (hq : WFIn w news q) (hlen : q.rows.length < 100) (hroom : ∀ r ∈ q.rows, r.things.length < 1000 ∧ r.fins.length = r.things.length) (hav : AllowV news av al)
    (hdp : dp + 20 < recursionLimit) (hun : un + 200 < cLine)
    (retN : ∀ h' tk', cands q al = [] → Fr h₀ L h' m → News h₀ L h' news → Q .none { s with heap := h', toks := tk' })
    (retS : ∀ (k : Nat) r D size thing rest T n u1 u2 u3 h' tk', q.rows[k]? = some r → r.things = (D, size, thing) :: rest → Best q al k → (∀ p ∈ news, @Ne Nat p.1 T) → Fr h₀ L h' m →
      News h₀ L h' ((T, tupO [.int (k : Int) u1, .int size u2, .int thing u3] n) :: news) → Q (.ref T) { s with heap := h', toks := tk' }) :
    wpAny (model prog w) (ktrTop dp un gd cn cs L a ccd cl outer) (call (.ref 149) [.ref q.x, av]) Q E s := by
  have kf : (fun (_ : OpenLaw) (_ : Params → Frag) => True) PySem.Challenge.rw_pc0369_01 hK := by k_fill; trivial
  clear kf
  have hb9 : Base s := ⟨⟩
  refine gl fun G9 hG9 => ?_
  obtain ⟨hx, ⟨k1, k2, k3, k4, k5, k6, t1, t2, hdx⟩, ⟨c4, sv, hst, hisv⟩, ⟨c5, hro⟩, ⟨c6, hfi⟩, ⟨c1, lv, hla, hilv⟩, hW⟩ := hq
  refine hG9 ?_
  clear hG9 G9
  refine wpAny_call ?_
  k_dflt (refine' code_defC ?k1 ?k2 ?k3 ?k4 ?k5 ?kA ?kF ?kK ?k6 ?k7 ?k8 ?k9 ?kB ?kD ?_ ?c2 ?c3 ?c4; (case kA => exact rfl); (case kF => exact rfl); (case kK => first | exact rfl | assumption); (case k1 => k_asm); (case k2 => k_asm); (case k3 => k_asm); (case k4 => k_asm); (case k5 => k_asm); (case k6 => k_is); (case k7 => k_is); (case k8 => k_room); (case k9 => first | exact BindsTo.of_eq rfl | exact binds_K (by k_in) rfl (by k_is) rfl rfl rfl); (case kB => exact rfl); (case kD => decide +kernel); (case c2 => exact rfl); (case c3 => exact rfl); (case c4 => exact rfl); k_whole)
  intro g1 L1 h2 tk1 cells FG1 F2 N2 Y1 B1 X1 T1 l3
  (try k_lt l3)
  have hY := CellsAre.two Y1
  refine gl fun G9 hG9 => ?_
  obtain ⟨oc1, oc2, hE, dc1, dc2⟩ := hY
  refine hG9 ?_
  clear hG9 G9
  subst hE
  clear Y1
  simp only [List.cons_append, List.nil_append] at N2
  (try dsimp only)
  (try k_fold)
  k_steps
  refine Hold.mk (LCt.CompSrcT.range (a := 0) (b := (q.rows.length : Int)) (n := q.rows.length) (by rfl) (by k_asm) (by k_asm) (by assumption) (by exact small_one (by omega) (by omega) (by omega) (by omega)) (by simpa using rangeSize_nat 0 q.rows.length) (by rw [sizeLine_eq]; omega) fun g => ?_)
  refine restT_start (fun nw0 i ys nw => nw = nw0 ∧ IntsAre ys (((List.range i).filter (goQ q al)).map fun (k : Nat) => (k : Int))) ⟨rfl, by simpa using IntsAre.nil⟩ ?_ ?_
  rotate_left
  · rintro i v ys nw I oI C oC D m₂ h tk E' hi1 ⟨tv, rfl⟩ ⟨rfl, hy⟩ hC hx' F9 N9 off ne
    have hi' : i < q.rows.length := hi1
    have hri : q.rows[i]? = some q.rows[i] := List.getElem?_eq_getElem hi'
    have hWi := (hW _ (List.getElem_mem hi')).1
    have hgo : goQ q al i = goB q.rows[i] al i := by simp [goQ, hri]
    have hst : (List.range (i + 1)).filter (goQ q al) = (List.range i).filter (goQ q al) ++ (if goB q.rows[i] al i then [i] else []) := by
      rw [List.range_succ, List.filter_append, ← hgo]; simp [List.filter_cons]
    rw [hst]
    generalize hrg : q.rows[i] = r at *
    simp only [Int.zero_add] at hx'
    k_steps
    refine Hold.mk ?_
    k_dflt (refine' may_c (c := c5) (rows := q.rows) (al := al) (r := r) ?k1 ?k2 ?k3 ?k4 ?k5 ?N ?m ?i ?b ?l ?v ?d ?u ?_; (case k1 => k_asm); (case k2 => k_asm); (case k3 => k_asm); (case k4 => k_asm); (case k5 => first | exact rfl | assumption); (case N => k_asm); (case m => k_mem); (case i => assumption); (case b => exact hWi.mono fun p hp => by simp [hp]); (case l => omega); (case v => exact hav.mono fun p hp => by simp [hp]); (case d => k_room); (case u => k_units))
    intro h7 tk7 F7 N7
    (try dsimp only at N7 ⊢)
    (try k_fold)
    cases hgB : goB r al i with
    | true =>
      k_steps
      refine Hold.mk (LCg.CompEnd.intro (by k_asm) (by k_asm) _ (fun p hp => hp) off trivial ⟨rfl, ?_⟩)
      rw [List.map_append]
      try rw [hgB]
      simp only [if_true]
      exact IntsAre.append hy (.cons _ _ .nil)
    | false =>
      k_steps
      refine Hold.mk (LCg.CompEnd.intro (by k_asm) (by k_asm) _ (fun p hp => hp) off trivial ⟨rfl, ?_⟩)
      try rw [hgB]
      simpa using hy
  rintro yv nw ⟨rfl, hy⟩ so h9 tk9 F9 N9 o9
  simp only [LCg.Off1] at o9
  generalize hcs : (List.range q.rows.length).filter (goQ q al) = cs9 at hy
  by_cases h0 : cs9 = []
  · subst h0
    obtain rfl : yv = [] := by cases hy; rfl
    k_steps
    exact retN _ _ hcs (by k_asm) (cb_drop (by assumption) fun p hp => by simp [hp])
  · have hye : yv.isEmpty = false := by
      cases yv with
      | nil => cases cs9 with
        | nil => exact absurd rfl h0
        | cons a b => cases hy
      | cons a b => rfl
    have hyl := IntsAre.length hy
    have hcl : cs9.length ≤ q.rows.length := by rw [← hcs]; exact Nat.le_trans (List.length_filter_le _ _) (by simp)
    have hcm : ∀ k ∈ cs9, k < q.rows.length ∧ goQ q al k = true := fun k hk => by
      rw [← hcs] at hk; simpa using hk
    have hcf : ∀ k ∈ cs9, ∃ r, q.rows[k]? = some r ∧ r ∈ q.rows ∧ r.things ≠ [] ∧ 0 < r.fins.length ∧ headF q k = r.fins.getD 0 0 := fun k hk => by
      obtain ⟨a1, a2⟩ := hcm k hk
      have e1 : q.rows[k]? = some q.rows[k] := List.getElem?_eq_getElem a1
      have m1 : q.rows[k] ∈ q.rows := List.getElem_mem a1
      have a3 : goB q.rows[k] al k = true := by simpa [goQ, e1] using a2
      have a4 : q.rows[k].things ≠ [] := by
        intro h; simp [goB, h] at a3
      have a5 := (hroom _ m1).2
      refine ⟨q.rows[k], e1, m1, a4, ?_, ?_⟩
      · rw [a5]; exact List.length_pos_iff.mpr a4
      · simp only [headF, e1]; cases q.rows[k].fins <;> rfl
    k_steps
    refine Hold.mk (LCg.CompSrc.ledger rfl (by k_asm) (by k_asm) (by k_mem) (by simp only [List.size_toArray, sizeLine_eq]; simp only [List.length_map] at hyl; omega) fun g => ?_)
    refine rest_start (PairsJ (fun j => headF q (cs9.getD j 0)) (fun j => ((cs9.getD j 0 : Nat) : Int))) pairs_nil ?_ ?_
    rotate_left
    · rintro i v ys nw I oI C oC D m₂ h tk E' hi1 hP J hC hx' F9 N9 off ne
      have hsub := J.1
      have hi' : i < yv.length := by simpa using hi1
      have hic : i < cs9.length := by simpa [hyl] using hi'
      obtain ⟨tv, rfl⟩ : ∃ t, v = .int ((cs9.getD i 0 : Nat) : Int) t := by
        obtain ⟨t, e⟩ := hy.get i ((cs9.getD i 0 : Nat) : Int) (by simp [hic])
        have hP' : yv[i]? = some v := by simpa using hP
        rw [e] at hP'
        exact ⟨t, (Option.some.inj hP').symm⟩
      have hkm : cs9.getD i 0 ∈ cs9 := by simp [hic]
      have fac : ∀ (Z : Nat → Prop), Z (cs9.getD i 0) → ∃ k, cs9.getD i 0 = k ∧ Z k := fun Z h => ⟨_, rfl, h⟩
      obtain ⟨k, hkg, hkm⟩ := fac _ hkm
      rw [hkg] at hx'
      refine gl fun G9 hG9 => ?_
      obtain ⟨r, f1, f2, f3, f4, f5⟩ := hcf k hkm
      refine hG9 ?_
      clear hG9 G9
      have hk' := (hcm k hkm).1
      refine gl fun G9 hG9 => ?_
      obtain ⟨⟨cf, nv, hfn, hnv⟩, _⟩ := (hW r f2).2
      refine hG9 ?_
      clear hG9 G9
      have hi2 : (q.rows.map fun r => Value.ref r.fn)[((k : Int)).toNat]? = some (.ref r.fn) := by simp [f1]
      have mfn := hsub (r.fn, listOf nv.toArray cf) (by simp [hfn])
      have mfi := hsub (q.fi, listOf (q.rows.map fun r => Value.ref r.fn).toArray c6) (by simp [hfi])
      have mdx := hsub _ (List.mem_cons_of_mem _ (List.mem_cons_of_mem _ (List.mem_cons_of_mem _ (List.mem_cons_of_mem _ hdx))))
      have mx := hsub _ (List.mem_cons_of_mem _ (List.mem_cons_of_mem _ (List.mem_cons_of_mem _ (List.mem_cons_of_mem _ hx))))
      have mc1 := hsub _ (List.mem_cons_of_mem _ (List.mem_cons_of_mem _ (List.mem_cons_self ..)))
      have mc2 := hsub _ (List.mem_cons_of_mem _ (List.mem_cons_of_mem _ (List.mem_cons_of_mem _ (List.mem_cons_self ..))))
      k_steps
      refine Hold.mk (pairs_step (by k_asm) (by k_asm) J off (by assumption) (fun nw' hs => .inr ⟨_, hs _ (hsub _ (by k_mem)), rfl, _, rfl⟩) ?_ ?_)
      · show _ = headF q (cs9.getD i 0)
        rw [hkg, f5]; rfl
      · show _ = ((cs9.getD i 0 : Nat) : Int)
        rw [hkg]
    rintro yv2 nw HH9 so2 h10 tk10 F10 N10 o10
    refine gl fun G9 hG9 => ?_
    obtain ⟨hsub, ts, e1, e2, e3⟩ := HH9
    refine hG9 ?_
    clear hG9 G9
    have htl : ts.length = cs9.length := by rw [e1]; simpa using hyl
    have hzl : yv.toArray.size = cs9.length := by simpa using hyl
    have hyl2 : yv2.length = cs9.length := by rw [e2]; simpa using htl
    have hcp : 0 < cs9.length := List.length_pos_iff.mpr h0
    k_steps
    refine my_minT (f := fun j => headF q (cs9.getD j 0)) (g := fun j => ((cs9.getD j 0 : Nat) : Int)) (ad := fun j => ts.getD j 0) (vs := yv2) rfl (by k_units) (by k_asm) (by k_asm) (by k_mem) (by omega) ?_ ?_ ?_
    · intro i v hv
      have hil : i < ts.length := by rw [e2] at hv; have := (List.getElem?_eq_some_iff.mp hv).1; simpa using this
      rw [e2] at hv
      simp only [List.getElem?_map, List.getElem?_eq_getElem hil, Option.map_some, Option.some.injEq] at hv
      subst hv; simp [hil]
    · intro i hi
      refine gl fun G9 hG9 => ?_
      obtain ⟨t1, t2, mm, h⟩ := e3 i (by omega)
      refine hG9 ?_
      clear hG9 G9
      exact ⟨t1, t2, mm, List.mem_cons_of_mem _ h⟩
    intro v h11 tk11 hv F11 N11
    have hbl : argBest (btT (fun j => headF q (cs9.getD j 0)) (fun j => ((cs9.getD j 0 : Nat) : Int))) (yv2.length - 1) < cs9.length := Nat.lt_of_le_of_lt (argBest_le _ _) (by omega)
    have hlea := argBest_least (fun j => headF q (cs9.getD j 0)) (fun j => ((cs9.getD j 0 : Nat) : Int)) (yv2.length - 1)
    generalize argBest (btT (fun j => headF q (cs9.getD j 0)) (fun j => ((cs9.getD j 0 : Nat) : Int))) (yv2.length - 1) = b at *
    refine gl fun G9 hG9 => ?_
    obtain ⟨t8, t9, m9, hb9⟩ := e3 b (by omega)
    refine hG9 ?_
    clear hG9 G9
    (try dsimp only at hb9)
    obtain rfl : v = .ref (ts.getD b 0) := by
      rw [e2] at hv
      have hil : b < ts.length := by omega
      simp only [List.getElem?_map, List.getElem?_eq_getElem hil, Option.map_some, Option.some.injEq] at hv
      subst hv; simp [hil]
    have hbest : Best q al (cs9.getD b 0) := by
      refine ⟨by show _ ∈ (List.range q.rows.length).filter _; rw [hcs]; simp [hbl], fun j hj => ?_⟩
      have hj : j ∈ (List.range q.rows.length).filter (goQ q al) := hj
      rw [hcs] at hj
      obtain ⟨i, hi, rfl⟩ := List.getElem_of_mem hj
      have := hlea i (by omega)
      have e : cs9.getD i 0 = cs9[i] := by simp [hi]
      simp only [e] at this
      omega
    have hkm : cs9.getD b 0 ∈ cs9 := by simp [hbl]
    generalize cs9.getD b 0 = k at *
    generalize ts.getD b 0 = ta at *
    refine gl fun G9 hG9 => ?_
    obtain ⟨r, f1, f2, f3, f4, f5⟩ := hcf k hkm
    refine hG9 ?_
    clear hG9 G9
    have hk' := (hcm k hkm).1
    refine gl fun G9 hG9 => ?_
    obtain ⟨⟨ry, ⟨a1, a2, a3, a4, a5, b1, b2, b3, b4, b5, rd⟩, c9, rt⟩, _, hths⟩ := hW r f2
    refine hG9 ?_
    clear hG9 G9
    obtain ⟨⟨Dt, size, thing⟩, restT, hth⟩ : ∃ x rest, r.things = x :: rest := by
      cases hh : r.things with
      | nil => exact absurd hh f3
      | cons x rest => exact ⟨x, rest, rfl⟩
    refine gl fun G9 hG9 => ?_
    obtain ⟨w1, w2, w3, hDt⟩ := hths (Dt, size, thing) (by rw [hth]; simp)
    refine hG9 ?_
    clear hG9 G9
    have hi2 : (q.rows.map fun r => Value.ref r.y)[((k : Int)).toNat]? = some (.ref r.y) := by simp [f1]
    have hi3 : (thRefs r)[(0 : Int).toNat]? = some (.ref Dt) := by simp [thRefs, hth]
    have up : ∀ p ∈ news, p ∈ nw := fun p hp => hsub _ (by simp [hp])
    have mx := up _ hx
    have mdx := up _ hdx
    have mro := up _ hro
    have mry := up _ ry
    have mrd := up _ rd
    have mrt := up _ rt
    have mDt := up _ hDt
    have mc1 := hsub _ (List.mem_cons_of_mem _ (List.mem_cons_of_mem _ (List.mem_cons_self ..)))
    have mc2 := hsub _ (List.mem_cons_of_mem _ (List.mem_cons_of_mem _ (List.mem_cons_of_mem _ (List.mem_cons_self ..))))
    generalize thRefs r = tv at *
    k_steps
    dsimp only
    refine my_item (by k_asm) (by k_mem) hi3 (by decide) (by decide) ?_
    k_steps
    rename _ ∧ _ ∧ AllLt _ nw => hl0
    refine retS k r Dt size thing restT _ 0 t9 w1 w2 _ _ f1 hth hbest (fun p hp => Nat.ne_of_lt (allLt_mem hl0.2.2 p (up p hp))) (by k_asm) (cb_drop (by assumption) fun p hp => ?_)
    rcases List.mem_cons.mp hp with rfl | hp
    · exact List.mem_cons_self ..
    · exact List.mem_cons_of_mem _ (List.mem_cons_of_mem _ (List.mem_cons_of_mem _ (up p hp)))
end

theorem ln12 : True := by
  k_with "off28" => skip
  trivial
end Part11
section Part12
theorem wo12 : True := by
  w_top off
  trivial
theorem RowIn.mono {w : World} {nw nw' : List (Addr × Obj)} {r : Row} (h : RowIn w nw r) (hs : ∀ p ∈ nw, p ∈ nw') : RowIn w nw' r := by
  refine gl fun G9 hG9 => ?_
  obtain ⟨h1, ⟨c, nv, h2, h3⟩, h4⟩ := h
  refine hG9 ?_
  clear hG9 G9
  exact ⟨h1.mono hs, ⟨c, nv, hs _ h2, h3⟩, fun x hx => by obtain ⟨u1, u2, n, h⟩ := h4 x hx; exact ⟨u1, u2, n, hs _ h⟩⟩
theorem WFIn.mono {w : World} {nw nw' : List (Addr × Obj)} {q : WFq} (h : WFIn w nw q) (hs : ∀ p ∈ nw, p ∈ nw') : WFIn w nw' q := by
  refine gl fun G9 hG9 => ?_
  obtain ⟨h1, ⟨k1, k2, k3, k4, k5, k6, t1, t2, h2⟩, ⟨c4, sv, h3, hisv⟩, ⟨c5, h4⟩, ⟨c6, h5⟩, ⟨c1, lv, h6, hilv⟩, h7⟩ := h
  refine hG9 ?_
  clear hG9 G9
  exact ⟨hs _ h1, ⟨k1, k2, k3, k4, k5, k6, t1, t2, hs _ h2⟩, ⟨c4, sv, hs _ h3, hisv⟩, ⟨c5, hs _ h4⟩, ⟨c6, hs _ h5⟩, ⟨c1, lv, hs _ h6, hilv⟩, fun r hr => (h7 r hr).mono hs⟩
theorem news_cons {h₀ h : Heap} {L : Addr} {x : Addr × Obj} {a b : List (Addr × Obj)} (N : News h₀ L h (x :: a)) (M : News h₀ L h b) : News h₀ L h (x :: b) := fun p hp => by
  rcases List.mem_cons.mp hp with rfl | hp
  · exact N _ (List.mem_cons_self ..)
  · exact M _ hp
theorem my_pop0 {prog : Program} {w : World} {A : Around} {E : Value → Shared → Prop} {s : Shared} {h₀ : Heap} {L D : Addr} {m : Str → Option Value} {news news' : List (Addr × Obj)} {y : Value} {vs : List Value} {n : Nat} {u : Tok} {Q : Value → Shared → Prop} (F : Fr h₀ L s.heap m) (N : News h₀ L s.heap news)
    (U : Upd D (listOf (y :: vs).toArray n) (listOf vs.toArray (n + 1)) news news') (hz : vs.length < 1000) (h : ∀ h', Fr h₀ L h' m → News h₀ L h' news' → Q y { s with heap := h' }) : wpAny (model prog w) A (call (.builtin "list.pop") [.ref D, .int 0 u]) Q E s := by
  refine kl_popAt (its := (y :: vs).toArray) (k := 0) (p := []) (q := vs) (y := y) F N rfl ?_ rfl U (by rw [sizeLine_eq]; simp only [List.length_cons]; omega) h
  have hc : (decide ((0 : Int) ≤ 0) && decide ((0 : Int) < ((vs.length + 1 : Nat) : Int))) = true := by
    rw [Bool.and_eq_true]; exact ⟨by decide, by simp only [decide_eq_true_eq]; omega⟩
  show (if (decide ((0 : Int) ≤ 0) && decide ((0 : Int) < ((vs.length + 1 : Nat) : Int))) = true then some (Int.toNat 0) else none) = some 0
  rw [if_pos hc]; rfl
inductive TakeQ (q : WFq) (k : Nat) (size thing : Int) (q' : WFq) : Prop
  | mk (r : Row) (D : Addr) (restT : List (Addr × Int × Int)) (f : Int) (restF : List Int) (h1 : q.rows[k]? = some r) (h2 : r.things = (D, size, thing) :: restT) (h3 : r.fins = f :: restF) (h4 :
    q' = { q with time := if f > q.time then f else q.time, rows := q.rows.set k { r with octs := r.octs - size, things := restT, fins := restF } }) : TakeQ q k size thing q'
theorem take_fin {w : World} {h₀ h : Heap} {L : Addr} {news news' : List (Addr × Obj)} {q : WFq} {r : Row} {pre post : List Row} {k1 k2 k3 k4 k5 k6 t1 t2 j1 j2 j3 j4 j5 t3 t4 t5 t6 t2' t5' : Tok} {dr Tm f size thing : Int} {c1 c2 c3 c4 c5 c6 c2' c3' : Nat} {lv nv sv nvr : List Value} {D : Addr} {restT : List (Addr × Int × Int)} {restF : List Int} {k : Nat}
    (P : Parts w news q r k1 k2 k3 k4 k5 k6 t1 t2 j1 j2 j3 j4 j5 t3 t4 t5 t6 dr c1 c2 c3 c4 c5 c6 lv nv sv) (N : News h₀ L h news) (hq : WFIn w news q) (hr : q.rows[k]? = some r) (e : q.rows = pre ++ r :: post) (hset : ∀ r', q.rows.set k r' = pre ++ r' :: post) (hoth : ∀ z ∈ pre ++ post, ∀ a ∈ adrR z, a ∉ mutL q r)
    (hth : r.things = (D, size, thing) :: restT) (hnvr : IntsAre nvr restF)
    (m1 : (q.dx, dictOf (wfEs w k1 k2 k3 k4 k5 k6 (.int q.unit t1) q.st q.ro q.fi q.la (.int Tm t2')) 6) ∈ news') (m2 : (q.la, listOf lv.toArray c1) ∈ news') (m3 : (r.dy, dictOf (rowEs w j1 j2 j3 j4 j5 (.int r.most t3) (.int r.moct t4) r.th (.int (r.octs - size) t5') (.int dr t6)) 5) ∈ news')
    (m4 : (r.th, listOf (restT.map fun x => Value.ref x.1).toArray c2') ∈ news') (m5 : (r.fn, listOf nvr.toArray c3') ∈ news') (hs : ∀ p ∈ restL q r news, p ∈ news') :
    WFIn w news' { q with time := Tm, rows := q.rows.set k { r with octs := r.octs - size, things := restT, fins := restF } } ∧ adrQ { q with time := Tm, rows := q.rows.set k { r with octs := r.octs - size, things := restT, fins := restF } } = adrQ q ∧ ∀ p ∈ news, p.1 ∉ adrQ q → p ∈ news' := by
  have hrm : r ∈ q.rows := List.mem_of_getElem? hr
  refine ⟨⟨hs _ P.hx, ⟨k1, k2, k3, k4, k5, k6, t1, t2', m1⟩, ⟨c4, sv, hs _ P.hst, P.hisv⟩, ⟨c5, ?_⟩, ⟨c6, ?_⟩, ⟨c1, lv, m2, P.hilv⟩, ?_⟩, ?_, ?_⟩
  · show (q.ro, listOf ((q.rows.set k _).map fun r => Value.ref r.y).toArray c5) ∈ news'
    rw [map_set_same (r' := { r with octs := r.octs - size, things := restT, fins := restF }) (fun r => Value.ref r.y) hr rfl]; exact hs _ P.hro
  · show (q.fi, listOf ((q.rows.set k _).map fun r => Value.ref r.fn).toArray c6) ∈ news'
    rw [map_set_same (r' := { r with octs := r.octs - size, things := restT, fins := restF }) (fun r => Value.ref r.fn) hr rfl]; exact hs _ P.hfi
  · intro z hz
    have hz : z ∈ q.rows.set k _ := hz
    rw [hset] at hz
    rcases List.mem_append.mp hz with hz | hz
    · exact RowIn.rest P N (hq.2.2.2.2.2.2 z (by rw [e]; simp [hz])) (hoth z (by simp [hz])) hs
    · rcases List.mem_cons.mp hz with rfl | hz
      · refine ⟨⟨hs _ P.hy, ⟨j1, j2, j3, j4, j5, t3, t4, t5', dr, t6, m3⟩, c2', m4⟩, ⟨c3', nvr, m5, hnvr⟩, fun x hx => ?_⟩
        refine gl fun G9 hG9 => ?_
        obtain ⟨u1, u2, n, h⟩ := (hq.2.2.2.2.2.2 r hrm).2.2 x (by rw [hth]; exact List.mem_cons_of_mem _ hx)
        refine hG9 ?_
        clear hG9 G9
        exact ⟨u1, u2, n, hs _ (tup_rest P N h)⟩
      · exact RowIn.rest P N (hq.2.2.2.2.2.2 z (by rw [e]; simp [hz])) (hoth z (by simp [hz])) hs
  · show (q.dx :: q.x :: q.st :: q.ro :: q.fi :: q.la :: (q.rows.set k _).flatMap adrR) = _
    rw [flatMap_set_same (r' := { r with octs := r.octs - size, things := restT, fins := restF }) hr rfl]; rfl
  · intro p hp hnot
    refine hs _ (restL_in hp fun hm => hnot ?_)
    have : p.1 ∈ fixL q r := by
      simp only [mutL, fixL, List.mem_cons, List.not_mem_nil, or_false] at hm ⊢
      rcases hm with h | h | h | h | h <;> simp [h]
    exact (adr_perm e).mem_iff.mpr (List.mem_append_left _ this)
theorem ln13 : True := by
  k_with "my call ref" => ((fail_if_success (k_extra "off31")); (k_here; refine hold_ref [149] rfl ?_))
  k_with "my call builtin:list.pop" => ((fail_if_success (k_extra "off31")); (k_here; k_dflt (refine' my_pop0 ?F9q42 ?N9q42 ?U9q42 ?z9q42 ?_; (case F9q42 => k_asm); (case N9q42 => k_asm); (case U9q42 => k_upd); (case z9q42 => ((try simp only [List.length_map]); assumption)); k_whole); intro h9q F9q N9q; (try dsimp only at N9q ⊢); (try k_sweep); (try k_fold)))
  trivial
section
variable {prog : Program} {w : World} {A : Around} {E : Value → Shared → Prop} {s : Shared} {h₀ : Heap} {L d : Addr} {news : List (Addr × Obj)} {v v0 v1 v2 : Value} {u : Tok} {n : Nat} {value slice : PySem.Expr} {Q : Value → Shared → Prop}
theorem my_tup0 (N : News h₀ L s.heap news) (hm : (d, tupO [v0, v1] n) ∈ news) (h : Q v0 s)
    (hs : subscripted slice false (.ref d) (.int 0 u) = operate [.ref d, .int 0 u] (getItem (.ref d) (.int 0 u)) := by with_unfolding_all rfl) :
    wpAny (model prog w) A (subscriptTail value slice (.ref d) (.int 0 u)) Q E s :=
  kba_turn (value' := PySem.Expr.Name (PySem.Str.ofString "_") ⟨0, 0, 0, 0⟩) (fun _ => rfl) (kim_tup (j := 0) (l := [v0, v1]) N hm rfl rfl (by decide) (by decide) (by rfl) rfl h hs (fun _ => rfl))
theorem my_tup1 (N : News h₀ L s.heap news) (hm : (d, tupO [v0, v1] n) ∈ news) (h : Q v1 s)
    (hs : subscripted slice false (.ref d) (.int 1 u) = operate [.ref d, .int 1 u] (getItem (.ref d) (.int 1 u)) := by with_unfolding_all rfl) :
    wpAny (model prog w) A (subscriptTail value slice (.ref d) (.int 1 u)) Q E s :=
  kba_turn (value' := PySem.Expr.Name (PySem.Str.ofString "_") ⟨0, 0, 0, 0⟩) (fun _ => rfl) (kim_tup (j := 1) (l := [v0, v1]) N hm rfl rfl (by decide) (by decide) (by rfl) rfl h hs (fun _ => rfl))
theorem my_tup30 (N : News h₀ L s.heap news) (hm : (d, tupO [v0, v1, v2] n) ∈ news) (h : Q v0 s)
    (hs : subscripted slice false (.ref d) (.int 0 u) = operate [.ref d, .int 0 u] (getItem (.ref d) (.int 0 u)) := by with_unfolding_all rfl) :
    wpAny (model prog w) A (subscriptTail value slice (.ref d) (.int 0 u)) Q E s :=
  kba_turn (value' := PySem.Expr.Name (PySem.Str.ofString "_") ⟨0, 0, 0, 0⟩) (fun _ => rfl) (kim_tup (j := 0) (l := [v0, v1, v2]) N hm rfl rfl (by decide) (by decide) (by rfl) rfl h hs (fun _ => rfl))
end
theorem ln14 : True := by
  k_with "my subscriptTail Name Constant ref int" => ((fail_if_success (k_extra "off31")); (k_here; (with_reducible show wpAny _ _ (subscriptTail _ _ (Value.ref _) (Value.int 0 _)) _ _ _); k_dflt (first | (refine' my_tup30 ?N9q43 ?m9q43 ?_; (case N9q43 => k_asm); (case m9q43 => k_mem); k_whole) | (refine' my_tup0 ?N9q43 ?m9q43 ?_; (case N9q43 => k_asm); (case m9q43 => k_mem); k_whole))))
  k_with "my subscriptTail Attribute Name Subscript ref int" => ((fail_if_success (k_extra "off31")); walk_at "item")
  k_with "my subscriptTail Name Subscript ref int" => ((fail_if_success (k_extra "off31")); walk_at "item")
  trivial
section
variable {prog : Program} {w : World} {p : Program} {loose : List Str} {mean : ExcName → Option Value} {mg mb : Str → Option Value}
    {dp un : Nat} {gd : Option (List Code)} {cn : Str} {cs : Scope} {a : Addr} {ccd : Value} {cl : List (Str × Addr)} {outer : List Env} {A₀ : Around} {base h₀ : Heap} {L : Addr} {m : Str → Option Value} {s : Shared} {Q E : Value → Shared → Prop}
    {news : List (Addr × Obj)}
set_option maxHeartbeats 8000000 in
theorem take_c {q : WFq} {av : Value} {al : Option Int}
    (B : Below A₀ base outer h₀) (F : Fr h₀ L s.heap m) (X : (hK w.params).In h₀) (T : Top p loose mean mg mb h₀) (hk : cs.kind = .function) (N : News h₀ L s.heap news) (hq : WFIn w news q) (hnd : (adrQ q).Nodup) (hlen : q.rows.length < 100) (hroom : ∀ r ∈ q.rows, r.things.length < 1000 ∧ r.fins.length = r.things.length) (hav : AllowV news av al)
    (hdp : dp + 30 < recursionLimit) (hun : un + 300 < cLine)
    (retN : ∀ h' tk', cands q al = [] → Fr h₀ L h' m → News h₀ L h' news → Q .none { s with heap := h', toks := tk' })
    (retS : ∀ q' (k : Nat) size thing T n u1 u2 u3 h' tk' news', Best q al k → TakeQ q k size thing q' → WFIn w news' q' → adrQ q' = adrQ q → (T, tupO [.int (k : Int) u1, .int size u2, .int thing u3] n) ∈ news' → (∀ p ∈ news, @Ne Nat p.1 T) →
      (∀ p ∈ news, p.1 ∉ adrQ q → p ∈ news') → Fr h₀ L h' m → News h₀ L h' news' → Q (.ref T) { s with heap := h', toks := tk' }) :
    wpAny (model prog w) (ktrTop dp un gd cn cs L a ccd cl outer) (call (.ref 157) [.ref q.x, av]) Q E s := by
  have kf : (fun (_ : OpenLaw) (_ : Params → Frag) => True) PySem.Challenge.rw_pc0369_01 hK := by k_fill; trivial
  clear kf
  have hb9 : Base s := ⟨⟩
  have hq' := hq
  refine gl fun G9 hG9 => ?_
  obtain ⟨hx, ⟨k1, k2, k3, k4, k5, k6, t1, t2, hdx⟩, _⟩ := hq'
  refine hG9 ?_
  clear hG9 G9
  refine wpAny_call ?_
  k_dflt (refine' code_def ?k1 ?k2 ?k3 ?k4 ?k5 ?kA ?kF ?kK ?k6 ?k7 ?k8 ?k9 ?kB ?_ ?c2 ?c3 ?c4 ?c5; (case kA => exact rfl); (case kF => exact rfl); (case kK => assumption); (case k1 => k_asm); (case k2 => k_asm); (case k3 => k_asm); (case k4 => k_asm); (case k5 => k_asm); (case k6 => k_is); (case k7 => k_is); (case k8 => k_room); (case k9 => first | exact BindsTo.of_eq rfl | exact binds_K (by k_in) rfl (by k_is) rfl rfl rfl); (case c5 => decide); (case kB => exact locs rfl); (case c2 => exact rfl); (case c3 => exact rfl); (case c4 => exact rfl); k_whole)
  intro g1 L1 h1 FG1 F1 N1 B1 X1 T1
  (try dsimp only); (try k_lift B1); (try k_fold)
  replace F1 := fr_open F1
  obtain ⟨m1, F1, em1⟩ := F1
  refine letMA ?_
  intro M9 A9
  k_steps
  refine Hold.mk ?_
  k_dflt (refine' look_c (q := q) (al := al) ?k1 ?k2 ?k3 ?k4 ?k5 ?N ?m ?i ?b ?v ?d ?u ?retN ?retS; (case k1 => k_asm); (case k2 => k_asm); (case k3 => k_asm); (case k4 => k_asm); (case k5 => first | exact rfl | assumption); (case N => k_asm); (case m => exact hq); (case i => assumption); (case b => assumption); (case v => exact hav); (case d => k_room); (case u => k_units))
  · intro h7 tk7 hc F7 N7
    (try dsimp only at N7 ⊢)
    (try k_fold)
    k_steps
    exact retN _ _ hc (by k_asm) (by k_asm)
  intro k r D size thing restT T n9 u1 u2 u3 h7 tk7 hr hth hbest hT F7 N7
  refine gl fun G9 hG9 => ?_
  obtain ⟨pre, post, e, hpl, hset⟩ := split_at hr
  refine hG9 ?_
  clear hG9 G9
  have hrm : r ∈ q.rows := List.mem_of_getElem? hr
  refine gl fun G9 hG9 => ?_
  obtain ⟨⟨k1, k2, k3, k4, k5, k6, t1, t2, j1, j2, j3, j4, j5, t3, t4, t5, t6, dr, c1, c2, c3, c4, c5, c6, lv, nv, sv, P⟩, hne, hoth⟩ := parts_of hq hnd e
  refine hG9 ?_
  clear hG9 G9
  have N7' := cb_drop N7 (fun p hp => List.mem_cons_of_mem (T, tupO [.int (k : Int) u1, .int size u2, .int thing u3] n9) hp)
  have hE := E_sub P N7'
  have N8 := news_cons N7 hE
  have mx := P.hx
  have my := P.hy
  have mro := P.hro
  have mfi := P.hfi
  have hinv := P.hinv
  have mdt : ∃ w1 w2 w3, (D, tupO [.int size w1, .int thing w2] w3) ∈ restL q r news := by
    refine gl fun G9 hG9 => ?_
    obtain ⟨w1, w2, w3, h⟩ := (hq.2.2.2.2.2.2 r hrm).2.2 (D, size, thing) (by rw [hth]; simp)
    refine hG9 ?_
    clear hG9 G9
    exact ⟨w1, w2, w3, tup_rest P N7' h⟩
  refine gl fun G9 hG9 => ?_
  obtain ⟨w1, w2, w3, mdt⟩ := mdt
  refine hG9 ?_
  clear hG9 G9
  obtain ⟨hro1, hro2⟩ := hroom r hrm
  obtain ⟨f, restF, hfs⟩ : ∃ f restF, r.fins = f :: restF := by
    cases hh : r.fins with
    | nil => rw [hh, hth] at hro2; simp at hro2
    | cons f restF => exact ⟨f, restF, rfl⟩
  obtain ⟨tf, nvr, hnv, hnvr⟩ : ∃ tf nvr, nv = .int f tf :: nvr ∧ IntsAre nvr restF := by
    rw [hfs] at hinv
    cases hinv with | cons n t r => exact ⟨_, _, rfl, r⟩
  have hnl : nvr.length = restF.length := IntsAre.length hnvr
  have hfl : restF.length < 1000 := by rw [hfs] at hro2; simp only [List.length_cons] at hro2; omega
  have hnvl : nvr.length < 1000 := by omega
  have hthr : thRefs r = .ref D :: (restT.map fun x => Value.ref x.1) := by simp [thRefs, hth]
  have htl : restT.length < 1000 := by rw [hth] at hro1; simp only [List.length_cons] at hro1; omega
  have hi2 : (q.rows.map fun r => Value.ref r.y)[((k : Int)).toNat]? = some (.ref r.y) := by simp [hr]
  have hi3 : (q.rows.map fun r => Value.ref r.fn)[((k : Int)).toNat]? = some (.ref r.fn) := by simp [hr]
  have hkl : (k : Int) < 100 := by have := (List.getElem?_eq_some_iff.mp hr).1; omega
  have nT1 : @Ne Nat T q.dx := Ne.symm (hT _ P.hdx)
  have nT2 : @Ne Nat T q.la := Ne.symm (hT _ P.hla)
  have nT3 : @Ne Nat T r.dy := Ne.symm (hT _ P.hdy)
  have nT4 : @Ne Nat T r.th := Ne.symm (hT _ P.hth)
  have nT5 : @Ne Nat T r.fn := Ne.symm (hT _ P.hfn)
  have e1 : ∀ p ∈ restL q r news, p.1 ≠ q.dx := fun p hp => (restL_ne p hp).1
  have e2 : ∀ p ∈ restL q r news, p.1 ≠ q.la := fun p hp => (restL_ne p hp).2.1
  have e3 : ∀ p ∈ restL q r news, p.1 ≠ r.dy := fun p hp => (restL_ne p hp).2.2.1
  have e4 : ∀ p ∈ restL q r news, p.1 ≠ r.th := fun p hp => (restL_ne p hp).2.2.2.1
  have e5 : ∀ p ∈ restL q r news, p.1 ≠ r.fn := fun p hp => (restL_ne p hp).2.2.2.2
  refine gl fun G9 hG9 => ?_
  obtain ⟨q1, q2, q3, q4, q5, q6, q7, q8, q9, q10⟩ := hne
  refine hG9 ?_
  clear hG9 G9
  rw [hthr, hnv] at N8
  have hrs : restL q r news = restL q r news := rfl
  generalize hrest : restL q r news = rest at mx my mro mfi mdt N8 e1 e2 e3 e4 e5
  clear hE N7' N7 N1
  (try dsimp only at N8 ⊢)
  (try k_fold)
  k_steps
  rename News h₀ L _ _ => NZ
  have NZ' := NZ
  obtain ⟨z1, z2, z3⟩ := take_fin (k := k) (f := f) P N hq hr e hset hoth hth hnvr (List.mem_cons_of_mem _ (List.mem_cons_self ..)) (List.mem_cons_of_mem _ (List.mem_cons_of_mem _ (List.mem_cons_self ..))) (List.mem_cons_of_mem _ (List.mem_cons_of_mem _ (List.mem_cons_of_mem _ (List.mem_cons_self ..))))
    (List.mem_cons_of_mem _ (List.mem_cons_of_mem _ (List.mem_cons_of_mem _ (List.mem_cons_of_mem _ (List.mem_cons_self ..))))) (List.mem_cons_of_mem _ (List.mem_cons_of_mem _ (List.mem_cons_of_mem _ (List.mem_cons_of_mem _ (List.mem_cons_of_mem _ (List.mem_cons_self ..))))))
    (fun p hp => List.mem_cons_of_mem (T, tupO [.int (k : Int) u1, .int size u2, .int thing u3] n9) (List.mem_cons_of_mem _ (List.mem_cons_of_mem _ (List.mem_cons_of_mem _ (List.mem_cons_of_mem _ (List.mem_cons_of_mem _ (hrest ▸ hp)))))))
  exact retS _ k size thing T n9 u1 u2 u3 _ _ _ hbest ⟨r, D, restT, f, restF, hr, hth, hfs, rfl⟩ z1 z2 (List.mem_cons_self ..) hT z3 (by k_asm) NZ
end
section
variable {prog : Program} {w : World} {p : Program} {loose : List Str} {mean : ExcName → Option Value} {mg mb : Str → Option Value}
    {dp un : Nat} {gd : Option (List Code)} {cn : Str} {cs : Scope} {a : Addr} {ccd : Value} {cl : List (Str × Addr)} {outer : List Env} {A₀ : Around} {base h₀ : Heap} {L : Addr} {m : Str → Option Value} {s : Shared} {Q E : Value → Shared → Prop}
    {news : List (Addr × Obj)}
set_option maxHeartbeats 8000000 in
theorem take_c0 {q : WFq}
    (B : Below A₀ base outer h₀) (F : Fr h₀ L s.heap m) (X : (hK w.params).In h₀) (T : Top p loose mean mg mb h₀) (hk : cs.kind = .function) (N : News h₀ L s.heap news) (hq : WFIn w news q) (hnd : (adrQ q).Nodup) (hlen : q.rows.length < 100) (hroom : ∀ r ∈ q.rows, r.things.length < 1000 ∧ r.fins.length = r.things.length)
    (hdp : dp + 30 < recursionLimit) (hun : un + 300 < cLine)
    (retN : ∀ h' tk', cands q none = [] → Fr h₀ L h' m → News h₀ L h' news → Q .none { s with heap := h', toks := tk' })
    (retS : ∀ q' (k : Nat) size thing T n u1 u2 u3 h' tk' news', Best q none k → TakeQ q k size thing q' → WFIn w news' q' → adrQ q' = adrQ q → (T, tupO [.int (k : Int) u1, .int size u2, .int thing u3] n) ∈ news' → (∀ p ∈ news, @Ne Nat p.1 T) →
      (∀ p ∈ news, p.1 ∉ adrQ q → p ∈ news') → Fr h₀ L h' m → News h₀ L h' news' → Q (.ref T) { s with heap := h', toks := tk' }) :
    wpAny (model prog w) (ktrTop dp un gd cn cs L a ccd cl outer) (call (.ref 157) [.ref q.x]) Q E s := by
  have kf : (fun (_ : OpenLaw) (_ : Params → Frag) => True) PySem.Challenge.rw_pc0369_01 hK := by k_fill; trivial
  clear kf
  have hb9 : Base s := ⟨⟩
  have hq' := hq
  refine gl fun G9 hG9 => ?_
  obtain ⟨hx, ⟨k1, k2, k3, k4, k5, k6, t1, t2, hdx⟩, _⟩ := hq'
  refine hG9 ?_
  clear hG9 G9
  refine wpAny_call ?_
  k_dflt (refine' code_def ?k1 ?k2 ?k3 ?k4 ?k5 ?kA ?kF ?kK ?k6 ?k7 ?k8 ?k9 ?kB ?_ ?c2 ?c3 ?c4 ?c5; (case kA => exact rfl); (case kF => exact rfl); (case kK => assumption); (case k1 => k_asm); (case k2 => k_asm); (case k3 => k_asm); (case k4 => k_asm); (case k5 => k_asm); (case k6 => k_is); (case k7 => k_is); (case k8 => k_room); (case k9 => first | exact BindsTo.of_eq rfl | exact binds_K (by k_in) rfl (by k_is) rfl rfl rfl); (case c5 => decide); (case kB => exact locs rfl); (case c2 => exact rfl); (case c3 => exact rfl); (case c4 => exact rfl); k_whole)
  intro g1 L1 h1 FG1 F1 N1 B1 X1 T1
  (try dsimp only); (try k_lift B1); (try k_fold)
  replace F1 := fr_open F1
  obtain ⟨m1, F1, em1⟩ := F1
  refine letMA ?_
  intro M9 A9
  k_steps
  refine Hold.mk ?_
  k_dflt (refine' look_c (q := q) (al := none) ?k1 ?k2 ?k3 ?k4 ?k5 ?N ?m ?i ?b ?v ?d ?u ?retN ?retS; (case k1 => k_asm); (case k2 => k_asm); (case k3 => k_asm); (case k4 => k_asm); (case k5 => first | exact rfl | assumption); (case N => k_asm); (case m => exact hq); (case i => assumption); (case b => assumption); (case v => exact .inl ⟨rfl, rfl⟩); (case d => k_room); (case u => k_units))
  · intro h7 tk7 hc F7 N7
    (try dsimp only at N7 ⊢)
    (try k_fold)
    k_steps
    exact retN _ _ hc (by k_asm) (by k_asm)
  intro k r D size thing restT T n9 u1 u2 u3 h7 tk7 hr hth hbest hT F7 N7
  refine gl fun G9 hG9 => ?_
  obtain ⟨pre, post, e, hpl, hset⟩ := split_at hr
  refine hG9 ?_
  clear hG9 G9
  have hrm : r ∈ q.rows := List.mem_of_getElem? hr
  refine gl fun G9 hG9 => ?_
  obtain ⟨⟨k1, k2, k3, k4, k5, k6, t1, t2, j1, j2, j3, j4, j5, t3, t4, t5, t6, dr, c1, c2, c3, c4, c5, c6, lv, nv, sv, P⟩, hne, hoth⟩ := parts_of hq hnd e
  refine hG9 ?_
  clear hG9 G9
  have N7' := cb_drop N7 (fun p hp => List.mem_cons_of_mem (T, tupO [.int (k : Int) u1, .int size u2, .int thing u3] n9) hp)
  have hE := E_sub P N7'
  have N8 := news_cons N7 hE
  have mx := P.hx
  have my := P.hy
  have mro := P.hro
  have mfi := P.hfi
  have hinv := P.hinv
  have mdt : ∃ w1 w2 w3, (D, tupO [.int size w1, .int thing w2] w3) ∈ restL q r news := by
    refine gl fun G9 hG9 => ?_
    obtain ⟨w1, w2, w3, h⟩ := (hq.2.2.2.2.2.2 r hrm).2.2 (D, size, thing) (by rw [hth]; simp)
    refine hG9 ?_
    clear hG9 G9
    exact ⟨w1, w2, w3, tup_rest P N7' h⟩
  refine gl fun G9 hG9 => ?_
  obtain ⟨w1, w2, w3, mdt⟩ := mdt
  refine hG9 ?_
  clear hG9 G9
  obtain ⟨hro1, hro2⟩ := hroom r hrm
  obtain ⟨f, restF, hfs⟩ : ∃ f restF, r.fins = f :: restF := by
    cases hh : r.fins with
    | nil => rw [hh, hth] at hro2; simp at hro2
    | cons f restF => exact ⟨f, restF, rfl⟩
  obtain ⟨tf, nvr, hnv, hnvr⟩ : ∃ tf nvr, nv = .int f tf :: nvr ∧ IntsAre nvr restF := by
    rw [hfs] at hinv
    cases hinv with | cons n t r => exact ⟨_, _, rfl, r⟩
  have hnl : nvr.length = restF.length := IntsAre.length hnvr
  have hfl : restF.length < 1000 := by rw [hfs] at hro2; simp only [List.length_cons] at hro2; omega
  have hnvl : nvr.length < 1000 := by omega
  have hthr : thRefs r = .ref D :: (restT.map fun x => Value.ref x.1) := by simp [thRefs, hth]
  have htl : restT.length < 1000 := by rw [hth] at hro1; simp only [List.length_cons] at hro1; omega
  have hi2 : (q.rows.map fun r => Value.ref r.y)[((k : Int)).toNat]? = some (.ref r.y) := by simp [hr]
  have hi3 : (q.rows.map fun r => Value.ref r.fn)[((k : Int)).toNat]? = some (.ref r.fn) := by simp [hr]
  have hkl : (k : Int) < 100 := by have := (List.getElem?_eq_some_iff.mp hr).1; omega
  have nT1 : @Ne Nat T q.dx := Ne.symm (hT _ P.hdx)
  have nT2 : @Ne Nat T q.la := Ne.symm (hT _ P.hla)
  have nT3 : @Ne Nat T r.dy := Ne.symm (hT _ P.hdy)
  have nT4 : @Ne Nat T r.th := Ne.symm (hT _ P.hth)
  have nT5 : @Ne Nat T r.fn := Ne.symm (hT _ P.hfn)
  have e1 : ∀ p ∈ restL q r news, p.1 ≠ q.dx := fun p hp => (restL_ne p hp).1
  have e2 : ∀ p ∈ restL q r news, p.1 ≠ q.la := fun p hp => (restL_ne p hp).2.1
  have e3 : ∀ p ∈ restL q r news, p.1 ≠ r.dy := fun p hp => (restL_ne p hp).2.2.1
  have e4 : ∀ p ∈ restL q r news, p.1 ≠ r.th := fun p hp => (restL_ne p hp).2.2.2.1
  have e5 : ∀ p ∈ restL q r news, p.1 ≠ r.fn := fun p hp => (restL_ne p hp).2.2.2.2
  refine gl fun G9 hG9 => ?_
  obtain ⟨q1, q2, q3, q4, q5, q6, q7, q8, q9, q10⟩ := hne
  refine hG9 ?_
  clear hG9 G9
  rw [hthr, hnv] at N8
  have hrs : restL q r news = restL q r news := rfl
  generalize hrest : restL q r news = rest at mx my mro mfi mdt N8 e1 e2 e3 e4 e5
  clear hE N7' N7 N1
  (try dsimp only at N8 ⊢)
  (try k_fold)
  k_steps
  rename News h₀ L _ _ => NZ
  have NZ' := NZ
  obtain ⟨z1, z2, z3⟩ := take_fin (k := k) (f := f) P N hq hr e hset hoth hth hnvr (List.mem_cons_of_mem _ (List.mem_cons_self ..)) (List.mem_cons_of_mem _ (List.mem_cons_of_mem _ (List.mem_cons_self ..))) (List.mem_cons_of_mem _ (List.mem_cons_of_mem _ (List.mem_cons_of_mem _ (List.mem_cons_self ..))))
    (List.mem_cons_of_mem _ (List.mem_cons_of_mem _ (List.mem_cons_of_mem _ (List.mem_cons_of_mem _ (List.mem_cons_self ..))))) (List.mem_cons_of_mem _ (List.mem_cons_of_mem _ (List.mem_cons_of_mem _ (List.mem_cons_of_mem _ (List.mem_cons_of_mem _ (List.mem_cons_self ..))))))
    (fun p hp => List.mem_cons_of_mem (T, tupO [.int (k : Int) u1, .int size u2, .int thing u3] n9) (List.mem_cons_of_mem _ (List.mem_cons_of_mem _ (List.mem_cons_of_mem _ (List.mem_cons_of_mem _ (List.mem_cons_of_mem _ (hrest ▸ hp)))))))
  exact retS _ k size thing T n9 u1 u2 u3 _ _ _ hbest ⟨r, D, restT, f, restF, hr, hth, hfs, rfl⟩ z1 z2 (List.mem_cons_self ..) hT z3 (by k_asm) NZ
end

theorem ln15 : True := by
  k_with "off31" => skip
  trivial
end Part12
section Part13
theorem wo13 : True := by
  w_top off
  trivial
noncomputable def Sm (a : Int) : Prop := Builtin.Int.intBits a ≤ 1000000
theorem mul_ok {a b : Int} (ha : Sm a) (hb : Sm b) : IntMulOk a b := IntMulOk.of_le (m := 1000000) (n := 1000000) ha hb (by decide)
theorem ln16 : True := by
  k_with "my mul_fits" => ((fail_if_success (k_extra "off35")); exact mul_ok (by assumption) (by assumption))
  trivial
inductive FrIn (news : List (Addr × Obj)) (a : Addr) (n d : Int) : Prop
  | mk (t1 t2 : Tok) (c : Nat) (h : (a, tupO [.int n t1, .int d t2] c) ∈ news) : FrIn news a n d
theorem FrIn.mono {news news' : List (Addr × Obj)} {a : Addr} {n d : Int} (h : FrIn news a n d) (hs : ∀ p ∈ news, p ∈ news') : FrIn news' a n d := by
  refine gl fun G9 hG9 => ?_
  obtain ⟨t1, t2, c, h⟩ := h
  refine hG9 ?_
  clear hG9 G9
  exact ⟨t1, t2, c, hs _ h⟩
section
variable {prog : Program} {w : World} {p : Program} {loose : List Str} {mean : ExcName → Option Value} {mg mb : Str → Option Value}
    {dp un : Nat} {gd : Option (List Code)} {cn : Str} {cs : Scope} {a : Addr} {ccd : Value} {cl : List (Str × Addr)} {outer : List Env} {A₀ : Around} {base h₀ : Heap} {L : Addr} {m : Str → Option Value} {s : Shared} {Q E : Value → Shared → Prop}
    {news : List (Addr × Obj)}
set_option maxHeartbeats 4000000 in
theorem less_c {x y : Addr} {n1 d1 n2 d2 : Int}
    (B : Below A₀ base outer h₀) (F : Fr h₀ L s.heap m) (X : (hK w.params).In h₀) (T : Top p loose mean mg mb h₀) (hk : cs.kind = .function) (N : News h₀ L s.heap news) (hx : FrIn news x n1 d1) (hy : FrIn news y n2 d2) (s1 : Sm n1) (s2 : Sm d1) (s3 : Sm n2) (s4 : Sm d2)
    (hdp : dp + 3 < recursionLimit) (hun : un + 30 < cLine)
    (ret : ∀ h' tk', Fr h₀ L h' m → News h₀ L h' news → Q (.bool (decide (n1 * d2 < n2 * d1))) { s with heap := h', toks := tk' }) :
    wpAny (model prog w) (ktrTop dp un gd cn cs L a ccd cl outer) (call (.ref 260) [.ref x, .ref y]) Q E s := by
  have kf : (fun (_ : OpenLaw) (_ : Params → Frag) => True) PySem.Challenge.rw_pc0369_01 hK := by k_fill; trivial
  clear kf
  have hb9 : Base s := ⟨⟩
  refine gl fun G9 hG9 => ?_
  obtain ⟨t1, t2, c1, hx⟩ := hx
  refine hG9 ?_
  clear hG9 G9
  refine gl fun G9 hG9 => ?_
  obtain ⟨t3, t4, c2, hy⟩ := hy
  refine hG9 ?_
  clear hG9 G9
  refine wpAny_call ?_
  k_dflt (refine' code_def ?k1 ?k2 ?k3 ?k4 ?k5 ?kA ?kF ?kK ?k6 ?k7 ?k8 ?k9 ?kB ?_ ?c2 ?c3 ?c4 ?c5; (case kA => exact rfl); (case kF => exact rfl); (case kK => assumption); (case k1 => k_asm); (case k2 => k_asm); (case k3 => k_asm); (case k4 => k_asm); (case k5 => k_asm); (case k6 => k_is); (case k7 => k_is); (case k8 => k_room); (case k9 => first | exact BindsTo.of_eq rfl | exact binds_K (by k_in) rfl (by k_is) rfl rfl rfl); (case c5 => decide); (case kB => exact locs rfl); (case c2 => exact rfl); (case c3 => exact rfl); (case c4 => exact rfl); k_whole)
  intro g1 L1 h1 FG1 F1 N1 B1 X1 T1
  (try dsimp only); (try k_lift B1); (try k_fold)
  replace F1 := fr_open F1
  obtain ⟨m1, F1, em1⟩ := F1
  refine letMA ?_
  intro M9 A9
  k_steps
  exact ret _ _ (by k_asm) (by k_asm)
end
theorem ln17 : True := by
  k_with "my call ref" => ((fail_if_success (k_extra "off35")); (k_here; refine hold_ref [260] rfl ?_))
  trivial
section
variable {prog : Program} {w : World} {p : Program} {loose : List Str} {mean : ExcName → Option Value} {mg mb : Str → Option Value}
    {dp un : Nat} {gd : Option (List Code)} {cn : Str} {cs : Scope} {a : Addr} {ccd : Value} {cl : List (Str × Addr)} {outer : List Env} {A₀ : Around} {base h₀ : Heap} {L : Addr} {m : Str → Option Value} {s : Shared} {Q E : Value → Shared → Prop}
    {news : List (Addr × Obj)}
set_option maxHeartbeats 4000000 in
theorem greater_c {x y : Addr} {n1 d1 n2 d2 : Int}
    (B : Below A₀ base outer h₀) (F : Fr h₀ L s.heap m) (X : (hK w.params).In h₀) (T : Top p loose mean mg mb h₀) (hk : cs.kind = .function) (N : News h₀ L s.heap news) (hx : FrIn news x n1 d1) (hy : FrIn news y n2 d2) (s1 : Sm n1) (s2 : Sm d1) (s3 : Sm n2) (s4 : Sm d2)
    (hdp : dp + 6 < recursionLimit) (hun : un + 60 < cLine)
    (ret : ∀ h' tk', Fr h₀ L h' m → News h₀ L h' news → Q (.ref (if n1 * d2 < n2 * d1 then y else x)) { s with heap := h', toks := tk' }) :
    wpAny (model prog w) (ktrTop dp un gd cn cs L a ccd cl outer) (call (.ref 267) [.ref x, .ref y]) Q E s := by
  have kf : (fun (_ : OpenLaw) (_ : Params → Frag) => True) PySem.Challenge.rw_pc0369_01 hK := by k_fill; trivial
  clear kf
  have hb9 : Base s := ⟨⟩
  refine wpAny_call ?_
  k_dflt (refine' code_def ?k1 ?k2 ?k3 ?k4 ?k5 ?kA ?kF ?kK ?k6 ?k7 ?k8 ?k9 ?kB ?_ ?c2 ?c3 ?c4 ?c5; (case kA => exact rfl); (case kF => exact rfl); (case kK => assumption); (case k1 => k_asm); (case k2 => k_asm); (case k3 => k_asm); (case k4 => k_asm); (case k5 => k_asm); (case k6 => k_is); (case k7 => k_is); (case k8 => k_room); (case k9 => first | exact BindsTo.of_eq rfl | exact binds_K (by k_in) rfl (by k_is) rfl rfl rfl); (case c5 => decide); (case kB => exact locs rfl); (case c2 => exact rfl); (case c3 => exact rfl); (case c4 => exact rfl); k_whole)
  intro g1 L1 h1 FG1 F1 N1 B1 X1 T1
  (try dsimp only); (try k_lift B1); (try k_fold)
  replace F1 := fr_open F1
  obtain ⟨m1, F1, em1⟩ := F1
  refine letMA ?_
  intro M9 A9
  by_cases hlt : n1 * d2 < n2 * d1
  · rw [if_pos hlt] at ret
    have hd : decide (n1 * d2 < n2 * d1) = true := by simpa using hlt
    k_steps
    refine Hold.mk ?_
    k_dflt (refine' less_c ?k1 ?k2 ?k3 ?k4 ?k5 ?N ?x ?y ?a ?b ?c ?d ?e ?f ?_; (case k1 => k_asm); (case k2 => k_asm); (case k3 => k_asm); (case k4 => k_asm); (case k5 => first | exact rfl | assumption); (case N => k_asm); (case x => assumption); (case y => assumption); (case a => assumption); (case b => assumption); (case c => assumption); (case d => assumption); (case e => k_room); (case f => k_units))
    intro h9 tk9 F9 N9
    (try dsimp only at N9 ⊢)
    (try k_sweep)
    (try k_fold)
    k_steps
    exact ret _ _ (by k_asm) (by k_asm)
  · rw [if_neg hlt] at ret
    have hd : decide (n1 * d2 < n2 * d1) = false := by simpa using hlt
    k_steps
    refine Hold.mk ?_
    k_dflt (refine' less_c ?k1 ?k2 ?k3 ?k4 ?k5 ?N ?x ?y ?a ?b ?c ?d ?e ?f ?_; (case k1 => k_asm); (case k2 => k_asm); (case k3 => k_asm); (case k4 => k_asm); (case k5 => first | exact rfl | assumption); (case N => k_asm); (case x => assumption); (case y => assumption); (case a => assumption); (case b => assumption); (case c => assumption); (case d => assumption); (case e => k_room); (case f => k_units))
    intro h9 tk9 F9 N9
    (try dsimp only at N9 ⊢)
    (try k_sweep)
    (try k_fold)
    k_steps
    exact ret _ _ (by k_asm) (by k_asm)
end
/-- a thing of the law's own rows -/
structure OThing where
  a : Addr
  fa : Addr
  num : Int
  den : Int
  size : Int
  thing : Int
structure ORow where
  lr : Addr
  things : List OThing
structure OwnS where
  d : Addr
  wl : Addr
  ro : Addr
  la : Addr
  tm : Addr
  weights : List Int
  last : List (Addr × Int × Int)
  tn : Int
  td : Int
  rows : List ORow
inductive TrIn (news : List (Addr × Obj)) (a fa : Addr) (x y : Int) : Prop
  | mk (t1 t2 : Tok) (c : Nat) (h : (a, tupO [.ref fa, .int x t1, .int y t2] c) ∈ news) : TrIn news a fa x y
noncomputable def thIn (news : List (Addr × Obj)) (x : OThing) : Prop := TrIn news x.a x.fa x.size x.thing ∧ FrIn news x.fa x.num x.den
noncomputable def ORowIn (news : List (Addr × Obj)) (r : ORow) : Prop := (∃ c, (r.lr, listOf (r.things.map fun x => Value.ref x.a).toArray c) ∈ news) ∧ ∀ x ∈ r.things, thIn news x
noncomputable abbrev ownKvs (o : OwnS) : List (Str × Value) := [("weights", .ref o.wl), ("rows", .ref o.ro), ("last", .ref o.la), ("time", .ref o.tm)]
noncomputable def OwnIn (prog : Program) (w : World) (news : List (Addr × Obj)) (o : OwnS) : Prop :=
  (o.d == sysModules) = false ∧ (∃ ob, (o.d, ob) ∈ news ∧ ob.IsDictOf (strKind prog w) (ownKvs o)) ∧
  IntL news o.wl o.weights ∧
  (∃ c, (o.ro, listOf (o.rows.map fun r => Value.ref r.lr).toArray c) ∈ news) ∧
  (∃ c, (o.la, listOf (o.last.map fun r => Value.ref r.1).toArray c) ∈ news) ∧
  FrIn news o.tm o.tn o.td ∧ (∀ x ∈ o.last, FrIn news x.1 x.2.1 x.2.2) ∧ ∀ r ∈ o.rows, ORowIn news r
noncomputable def adrO (o : OwnS) : List Addr := o.d :: o.wl :: o.la :: o.ro :: o.rows.map fun r => r.lr
noncomputable def adrM (o : OwnS) : List Addr := o.d :: o.la :: o.ro :: o.rows.map fun r => r.lr

theorem ln18 : True := by
  k_with "off35" => skip
  trivial
end Part13
theorem ln19 : True := by
  k_with "my mul_fits" => (exact mul_ok (by assumption) (by assumption))
  trivial
section Part14
theorem setL_ok : ∀ {l : List Value} {k : Nat} {v : Value}, k < l.length → ki_setL l k v = some (l.set k v)
  | [], _, _, h => absurd h (Nat.not_lt_zero _)
  | x :: r, 0, v, _ => rfl
  | x :: r, k + 1, v, h => by
    have := setL_ok (l := r) (k := k) (v := v) (by simpa using h)
    simp [ki_setL, this]
theorem my_setv {prog : Program} {w : World} {A : Around} {E : Value → Shared → Prop} {s : Shared} {h₀ : Heap} {L D : Addr} {m : Str → Option Value} {news news' : List (Addr × Obj)} {vs : List Value} {n : Nat} {k : Int} {t : Tok} {v : Value} {Q : Unit → Shared → Prop} (F : Fr h₀ L s.heap m) (N : News h₀ L s.heap news) (h0 : 0 ≤ k) (hfit : k < 2 ^ 63)
    (U : Upd D (listOf vs.toArray n) (listOf (vs.set k.toNat v).toArray n) news news') (hl : k.toNat < vs.length) (h : ∀ h', Fr h₀ L h' m → News h₀ L h' news' → Q () { s with heap := h' }) : wpAny (model prog w) A (setItem (.ref D) (.int k t) v) Q E s :=
  ki_set (its := vs.toArray) F N h0 hfit (setL_ok (by simpa using hl)) U h
theorem own_set_last {prog : Program} {w : World} {A : Around} {E : Value → Shared → Prop} {s : Shared} {h₀ : Heap} {L d : Addr} {m : Str → Option Value} {news : List (Addr × Obj)} {g : Obj → List (Addr × Obj)} {ob : Obj} {a b c e v : Value} {u : Tok} {Q : Unit → Shared → Prop} (F : Fr h₀ L s.heap m) (N : News h₀ L s.heap news) (U : UpdF d ob news g)
    (hd : ob.IsDictOf (strKind prog w) [("weights", a), ("rows", b), ("last", c), ("time", e)])
    (h : ∀ h' o' tk', Fr h₀ L h' m → News h₀ L h' (g o') → o'.IsDictOf (strKind prog w) [("weights", a), ("rows", b), ("last", v), ("time", e)] → Q () { s with heap := h', toks := tk' }) : wpAny (model prog w) A (setItem (.ref d) (.str "last" u) v) Q E s := by
  refine kda_set F N U hd (strKind_is _ _ _ _) (by rw [sizeLine_eq]; simp only [List.length_cons, List.length_nil]; omega) fun h' o' F' N' hd' => h h' o' _ F' N' ?_
  have e1 : (Str.ofString "weights" = Str.ofString "last") = False := by simp; decide +kernel
  have e2 : (Str.ofString "rows" = Str.ofString "last") = False := by simp; decide +kernel
  have e3 : (Str.ofString "time" = Str.ofString "last") = False := by simp; decide +kernel
  simpa [stored, e1, e2, e3] using hd'
theorem own_set_time {prog : Program} {w : World} {A : Around} {E : Value → Shared → Prop} {s : Shared} {h₀ : Heap} {L d : Addr} {m : Str → Option Value} {news : List (Addr × Obj)} {g : Obj → List (Addr × Obj)} {ob : Obj} {a b c e v : Value} {u : Tok} {Q : Unit → Shared → Prop} (F : Fr h₀ L s.heap m) (N : News h₀ L s.heap news) (U : UpdF d ob news g)
    (hd : ob.IsDictOf (strKind prog w) [("weights", a), ("rows", b), ("last", c), ("time", e)])
    (h : ∀ h' o' tk', Fr h₀ L h' m → News h₀ L h' (g o') → o'.IsDictOf (strKind prog w) [("weights", a), ("rows", b), ("last", c), ("time", v)] → Q () { s with heap := h', toks := tk' }) : wpAny (model prog w) A (setItem (.ref d) (.str "time" u) v) Q E s := by
  refine kda_set F N U hd (strKind_is _ _ _ _) (by rw [sizeLine_eq]; simp only [List.length_cons, List.length_nil]; omega) fun h' o' F' N' hd' => h h' o' _ F' N' ?_
  have e1 : (Str.ofString "weights" = Str.ofString "time") = False := by simp; decide +kernel
  have e2 : (Str.ofString "rows" = Str.ofString "time") = False := by simp; decide +kernel
  have e3 : (Str.ofString "last" = Str.ofString "time") = False := by simp; decide +kernel
  simpa [stored, e1, e2, e3] using hd'
noncomputable def Grt (n1 d1 n2 d2 n d : Int) : Prop := (n1 * d2 < n2 * d1 ∧ n = n2 ∧ d = d2) ∨ (¬ n1 * d2 < n2 * d1 ∧ n = n1 ∧ d = d1)
section
variable {prog : Program} {w : World} {p : Program} {loose : List Str} {mean : ExcName → Option Value} {mg mb : Str → Option Value}
    {dp un : Nat} {gd : Option (List Code)} {cn : Str} {cs : Scope} {a : Addr} {ccd : Value} {cl : List (Str × Addr)} {outer : List Env} {A₀ : Around} {base h₀ : Heap} {L : Addr} {m : Str → Option Value} {s : Shared} {Q E : Value → Shared → Prop}
    {news : List (Addr × Obj)}
theorem greater_g {x y : Addr} {n1 d1 n2 d2 : Int}
    (B : Below A₀ base outer h₀) (F : Fr h₀ L s.heap m) (X : (hK w.params).In h₀) (T : Top p loose mean mg mb h₀) (hk : cs.kind = .function) (N : News h₀ L s.heap news) (hx : FrIn news x n1 d1) (hy : FrIn news y n2 d2) (s1 : Sm n1) (s2 : Sm d1) (s3 : Sm n2) (s4 : Sm d2)
    (hdp : dp + 6 < recursionLimit) (hun : un + 60 < cLine)
    (ret : ∀ z n d h' tk', Grt n1 d1 n2 d2 n d → ((z = x) ∨ (z = y)) → FrIn news z n d → Sm n → Sm d → Fr h₀ L h' m → News h₀ L h' news → Q (.ref z) { s with heap := h', toks := tk' }) :
    wpAny (model prog w) (ktrTop dp un gd cn cs L a ccd cl outer) (call (.ref 267) [.ref x, .ref y]) Q E s := by
  refine greater_c B F X T hk N hx hy s1 s2 s3 s4 hdp hun fun h' tk' F' N' => ?_
  by_cases hlt : n1 * d2 < n2 * d1
  · rw [if_pos hlt]; exact ret _ _ _ _ _ (.inl ⟨hlt, rfl, rfl⟩) (.inr rfl) hy s3 s4 F' N'
  · rw [if_neg hlt]; exact ret _ _ _ _ _ (.inr ⟨hlt, rfl, rfl⟩) (.inl rfl) hx s1 s2 F' N'
end
theorem sm0 : Sm 0 := by unfold Sm; decide
theorem sm1 : Sm 1 := by unfold Sm; decide
section
variable {a b c e : Value}
theorem va_w : valueAt [((Str.ofString "weights"), a), ((Str.ofString "rows"), b), ((Str.ofString "last"), c), ((Str.ofString "time"), e)] (Str.ofString "weights") = some a := by rfl
theorem va_r : valueAt [((Str.ofString "weights"), a), ((Str.ofString "rows"), b), ((Str.ofString "last"), c), ((Str.ofString "time"), e)] (Str.ofString "rows") = some b := by rfl
theorem va_l : valueAt [((Str.ofString "weights"), a), ((Str.ofString "rows"), b), ((Str.ofString "last"), c), ((Str.ofString "time"), e)] (Str.ofString "last") = some c := by rfl
theorem va_t : valueAt [((Str.ofString "weights"), a), ((Str.ofString "rows"), b), ((Str.ofString "last"), c), ((Str.ofString "time"), e)] (Str.ofString "time") = some e := by rfl
end
section
variable {prog : Program} {w : World} {A : Around} {E : Value → Shared → Prop} {s : Shared} {h₀ : Heap} {L d : Addr} {news : List (Addr × Obj)} {ob : Obj} {kvs : List (Str × Value)} {x : Str} {v v0 v1 v2 : Value} {r : List Value} {u : Tok} {n : Nat} {value slice : PySem.Expr} {Q : Value → Shared → Prop}
theorem own_get (N : News h₀ L s.heap news) (hp : (d, ob) ∈ news) (hd : ob.IsDictOf (strKind prog w) kvs) (hl : valueAt kvs x = some v) (h : Q v { s with toks := s.toks + 1 })
    (hs : subscripted slice false (.ref d) (.str x u) = operate [.ref d, .str x u] (getItem (.ref d) (.str x u)) := by with_unfolding_all rfl) :
    wpAny (model prog w) A (subscriptTail value slice (.ref d) (.str x u)) Q E s :=
  kba_turn (value' := PySem.Expr.Name (PySem.Str.ofString "_") ⟨0, 0, 0, 0⟩) (fun _ => rfl) (kda_item N hp hd (strKind_is _ _ _ _) hl h hs (fun _ => rfl))
end
end Part14
theorem ln20 : True := by
  k_with "my subscriptTail Name Constant ref str" => (k_here; k_dflt (refine' own_get ?N9q49 ?m9q49 ?d9q49 ?l9q49 ?_; (case N9q49 => k_asm); (case m9q49 => k_mem); (case d9q49 => with_reducible assumption); (case l9q49 => with_reducible (first | exact va_w | exact va_r | exact va_l | exact va_t)); k_whole))
  k_with "my subscriptTail Name Constant ref int" => (k_here; first | ((with_reducible show wpAny _ _ (subscriptTail _ _ (Value.ref _) (Value.int 0 _)) _ _ _); k_dflt (refine' my_tup0 ?N9q50 ?m9q50 ?_; (case N9q50 => k_asm); (case m9q50 => k_mem); k_whole)) | ((with_reducible show wpAny _ _ (subscriptTail _ _ (Value.ref _) (Value.int 1 _)) _ _ _); k_dflt (refine' my_tup1 ?N9q50 ?m9q50 ?_; (case N9q50 => k_asm); (case m9q50 => k_mem); k_whole)))
  k_with "my binaryOp Mult ref int" => (k_here; (refine' KMa.mul (vs := [_]) ?F9q51 ?N9q51 ?l9q51 ?a9q51 ?b9q51 ?z9q51 List.flatten_replicate_singleton ?_; (case F9q51 => k_asm); (case N9q51 => k_asm); (case l9q51 => is_list); (case a9q51 => omega); (case b9q51 => omega); (case z9q51 => (simp only [List.length_cons, List.length_nil]; omega))); intro D8q h8q F8q N8q l8q; (try k_lt l8q))
  trivial
section Part15
theorem wo15 : True := by
  w_top off
  trivial
theorem ln21 : True := by
  k_with "my subscriptTail Subscript Name Constant Name ref int" => ((fail_if_success (k_extra "off42")); (k_here; refine Hold.out ?_))
  k_with "my setItem ref str ref" => ((fail_if_success (k_extra "off42")); (k_here; (refine Hold.out ?_)))
  k_with "my setItem ref int" => ((fail_if_success (k_extra "off42")); (k_here; (refine Hold.out ?_)))
  k_with "my call ref" => ((fail_if_success (k_extra "off42")); (k_here; refine hold_ref [267] rfl ?_))
  trivial
noncomputable def allE (o : OwnS) : Bool := o.rows.all fun z => z.things.isEmpty
inductive LPutEnd (prog : Program) (w : World) (o : OwnS) (r : ORow) (k : Nat) (size thing : Int) (rest news' : List (Addr × Obj)) : Prop
  | mk (la' tm' Ta Fa : Addr) (last0 : List (Addr × Int × Int)) (tn0 td0 bn bd : Int) (h1 : (allE o = true ∧ (∃ x, last0 = List.replicate o.rows.length (x, 0, 1)) ∧ tn0 = 0 ∧ td0 = 1 ∧ (@Ne Nat o.d la' ∧ @Ne Nat r.lr la' ∧ ∀ p ∈ rest, @Ne Nat p.1 la')) ∨ (allE o = false ∧ la' = o.la ∧ last0 = o.last ∧ tn0 = o.tn ∧ td0 = o.td))
    (h2 : ∃ x ln ld, last0[k]? = some (x, ln, ld) ∧ Grt ln ld tn0 td0 bn bd) (h3 : ∃ ob', (o.d, ob') ∈ news' ∧ ob'.IsDictOf (strKind prog w) [("weights", .ref o.wl), ("rows", .ref o.ro), ("last", .ref la'), ("time", .ref tm')])
    (h4 : ∃ c, (la', listOf ((last0.map fun r => Value.ref r.1).set k (.ref Fa)).toArray c) ∈ news') (h5 : ∃ c, (r.lr, listOf ((r.things.map fun x => Value.ref x.a) ++ [Value.ref Ta]).toArray c) ∈ news')
    (h6 : TrIn news' Ta Fa size thing) (h7 : FrIn news' Fa (bn * o.weights.getD k 0 + size * bd) (bd * o.weights.getD k 0)) (h8 : FrIn news' tm' tn0 td0) (h9 : ∀ x ∈ last0, FrIn news' x.1 x.2.1 x.2.2) : LPutEnd prog w o r k size thing rest news'
theorem ne7 {d a1 a2 a3 a4 a5 a6 a7 : Nat} {rest : List (Addr × Obj)} (h : a1 < d ∧ a2 < d ∧ a3 < d ∧ a4 < d ∧ a5 < d ∧ a6 < d ∧ a7 < d ∧ AllLt d rest) : ∀ p ∈ rest, @Ne Nat p.1 d := fun p hp => Nat.ne_of_lt (allLt_mem h.2.2.2.2.2.2.2 p hp)
theorem lputA {prog : Program} {w : World} {h₀ h' : Heap} {L la' tm' Ta Fa x : Addr} {o : OwnS} {r : ORow} {ob' : Obj} {k : Nat} {size thing bn bd : Int} {rest news' : List (Addr × Obj)} {c c2 cD cF cx ct : Nat} {u1 u2 f1 f2 x1 x2 t1 t2 : Tok}
    (N : News h₀ L h' news') (hae : (o.rows.all fun z => z.things.isEmpty) = true) (hk : k < o.rows.length) (hdx : (o.d, ob') ∈ news') (hd : ob'.IsDictOf (strKind prog w) [("weights", .ref o.wl), ("rows", .ref o.ro), ("last", .ref la'), ("time", .ref tm')])
    (hla : (la', listOf ((List.replicate ((o.rows.length : Int)).toNat (Value.ref x)).set ((k : Int)).toNat (.ref Fa)).toArray c) ∈ news') (hlr : (r.lr, listOf ((r.things.map fun x => Value.ref x.a).toArray.push (.ref Ta)) c2) ∈ news')
    (hTa : (Ta, tupO [.ref Fa, .int size u1, .int thing u2] cD) ∈ news') (hFa : (Fa, tupO [.int (bn * o.weights.getD ((k : Int)).toNat 0 + size * bd) f1, .int (bd * o.weights.getD ((k : Int)).toNat 0) f2] cF) ∈ news') (hx : (x, tupO [.int 0 x1, .int 1 x2] cx) ∈ news') (htm : (tm', tupO [.int 0 t1, .int 1 t2] ct) ∈ news')
    (hg : Grt 0 1 0 1 bn bd) (hne : @Ne Nat o.d la' ∧ @Ne Nat r.lr la' ∧ ∀ p ∈ rest, @Ne Nat p.1 la') : LPutEnd prog w o r k size thing rest news' := by
  simp only [Int.toNat_natCast] at hla hFa
  refine ⟨la', tm', Ta, Fa, List.replicate o.rows.length (x, 0, 1), 0, 1, bn, bd, .inl ⟨hae, ⟨x, rfl⟩, rfl, rfl, hne⟩, ⟨x, 0, 1, List.getElem?_replicate_of_lt hk, hg⟩, ⟨ob', hdx, hd⟩, ⟨c, ?_⟩, ⟨c2, ?_⟩, ⟨u1, u2, cD, hTa⟩, ⟨f1, f2, cF, hFa⟩, ⟨t1, t2, ct, htm⟩, fun z hz => ?_⟩
  · rw [List.map_replicate]; exact hla
  · simpa using hlr
  · obtain rfl := (List.mem_replicate.mp hz).2
    exact ⟨x1, x2, cx, hx⟩
theorem lputB {prog : Program} {w : World} {h₀ h' : Heap} {L Ta Fa : Addr} {o : OwnS} {r : ORow} {ob' : Obj} {k : Nat} {size thing bn bd : Int} {rest news' : List (Addr × Obj)} {lx : Addr × Int × Int} {c c2 cD cF : Nat} {u1 u2 f1 f2 : Tok}
    (N : News h₀ L h' news') (hae : (o.rows.all fun z => z.things.isEmpty) = false) (hdx : (o.d, ob') ∈ news') (hd : ob'.IsDictOf (strKind prog w) [("weights", .ref o.wl), ("rows", .ref o.ro), ("last", .ref o.la), ("time", .ref o.tm)])
    (hla : (o.la, listOf ((o.last.map fun r => Value.ref r.1).set ((k : Int)).toNat (.ref Fa)).toArray c) ∈ news') (hlr : (r.lr, listOf ((r.things.map fun x => Value.ref x.a).toArray.push (.ref Ta)) c2) ∈ news')
    (hTa : (Ta, tupO [.ref Fa, .int size u1, .int thing u2] cD) ∈ news') (hFa : (Fa, tupO [.int (bn * o.weights.getD ((k : Int)).toNat 0 + size * bd) f1, .int (bd * o.weights.getD ((k : Int)).toNat 0) f2] cF) ∈ news')
    (hlx : o.last[k]? = some lx) (hg : Grt lx.2.1 lx.2.2 o.tn o.td bn bd) (htm : FrIn news' o.tm o.tn o.td) (hl : ∀ x ∈ o.last, FrIn news' x.1 x.2.1 x.2.2) : LPutEnd prog w o r k size thing rest news' := by
  simp only [Int.toNat_natCast] at hla hFa
  refine ⟨o.la, o.tm, Ta, Fa, o.last, o.tn, o.td, bn, bd, .inr ⟨hae, rfl, rfl, rfl, rfl⟩, ⟨_, _, _, hlx, hg⟩, ⟨ob', hdx, hd⟩, ⟨c, hla⟩, ⟨c2, ?_⟩, ⟨u1, u2, cD, hTa⟩, ⟨f1, f2, cF, hFa⟩, htm, hl⟩
  simpa using hlr
section
variable {prog : Program} {w : World} {p : Program} {loose : List Str} {mean : ExcName → Option Value} {mg mb : Str → Option Value}
    {dp un : Nat} {gd : Option (List Code)} {cn : Str} {cs : Scope} {a : Addr} {ccd : Value} {cl : List (Str × Addr)} {outer : List Env} {A₀ : Around} {base h₀ : Heap} {L : Addr} {m : Str → Option Value} {s : Shared} {Q E : Value → Shared → Prop}
    {news : List (Addr × Obj)}
set_option maxHeartbeats 6000000 in
theorem lput_w {o : OwnS} {ob : Obj} {r : ORow} {c1 c2 c3 c4 : Nat} {wv : List Value} {k : Nat} {size thing : Int} {u1 u2 u3 : Tok} {rest : List (Addr × Obj)}
    (B : Below A₀ base outer h₀) (F : Fr h₀ L s.heap m) (X : (hK w.params).In h₀) (T : Top p loose mean mg mb h₀) (hk : cs.kind = .function) (N : News h₀ L s.heap ((o.d, ob) :: (o.la, listOf (o.last.map fun r => Value.ref r.1).toArray c1) :: (r.lr, listOf (r.things.map fun x => Value.ref x.a).toArray c2) :: rest))
    (hob : ob.IsDictOf (strKind prog w) (ownKvs o)) (lo : (o.d == sysModules) = false) (hro : (o.ro, listOf (o.rows.map fun r => Value.ref r.lr).toArray c3) ∈ rest) (hwl : (o.wl, listOf wv.toArray c4) ∈ rest) (hwv : IntsAre wv o.weights)
    (e1 : ∀ p ∈ rest, p.1 ≠ o.d) (e2 : ∀ p ∈ rest, p.1 ≠ o.la) (e3 : ∀ p ∈ rest, p.1 ≠ r.lr) (hne : @Ne Nat o.d o.la ∧ @Ne Nat o.d r.lr ∧ @Ne Nat o.la r.lr)
    (hrows : ∀ z ∈ o.rows, ∃ c, (z.lr, listOf (z.things.map fun x => Value.ref x.a).toArray c) ∈ (o.d, ob) :: (o.la, listOf (o.last.map fun r => Value.ref r.1).toArray c1) :: (r.lr, listOf (r.things.map fun x => Value.ref x.a).toArray c2) :: rest)
    (htm : FrIn rest o.tm o.tn o.td) (hlast : ∀ x ∈ o.last, FrIn rest x.1 x.2.1 x.2.2)
    (hr : o.rows[k]? = some r) (hll : o.last.length = o.rows.length) (hwll : o.weights.length = o.rows.length) (hlen : o.rows.length < 100) (htl : r.things.length < 1000)
    (st1 : Sm o.tn) (st2 : Sm o.td) (sl : ∀ x ∈ o.last, Sm x.2.1 ∧ Sm x.2.2) (sw : ∀ x ∈ o.weights, Sm x) (ss : Sm size)
    (hdp : dp + 20 < recursionLimit) (hun : un + 200 < cLine)
    (ret : ∀ h' tk' news', LPutEnd prog w o r k size thing rest news' → (∀ p ∈ rest, p ∈ news') → Fr h₀ L h' m → News h₀ L h' news' → Q .none { s with heap := h', toks := tk' }) :
    wpAny (model prog w) (ktrTop dp un gd cn cs L a ccd cl outer) (call (.ref 272) [.ref o.d, .int (k : Int) u1, .int size u2, .int thing u3]) Q E s := by
  have kf : (fun (_ : OpenLaw) (_ : Params → Frag) => True) PySem.Challenge.rw_pc0369_01 hK := by k_fill; trivial
  clear kf
  have hb9 : Base s := ⟨⟩
  obtain ⟨q1, q2, q3⟩ := hne
  refine wpAny_call ?_
  k_dflt (refine' code_def ?k1 ?k2 ?k3 ?k4 ?k5 ?kA ?kF ?kK ?k6 ?k7 ?k8 ?k9 ?kB ?_ ?c2 ?c3 ?c4 ?c5; (case kA => exact rfl); (case kF => exact rfl); (case kK => assumption); (case k1 => k_asm); (case k2 => k_asm); (case k3 => k_asm); (case k4 => k_asm); (case k5 => k_asm); (case k6 => k_is); (case k7 => k_is); (case k8 => k_room); (case k9 => first | exact BindsTo.of_eq rfl | exact binds_K (by k_in) rfl (by k_is) rfl rfl rfl); (case c5 => decide); (case kB => exact locs rfl); (case c2 => exact rfl); (case c3 => exact rfl); (case c4 => exact rfl); k_whole)
  intro g1 L1 h1 FG1 F1 N1 B1 X1 T1
  (try dsimp only); (try k_lift B1); (try k_fold)
  replace F1 := fr_open F1
  obtain ⟨m1, F1, em1⟩ := F1
  refine letMA ?_
  intro M9 A9
  k_steps
  refine Hold.mk (LCt.CompSrcT.ledger rfl (by k_asm) (by k_asm) (by k_mem) (by simp only [List.size_toArray, List.length_map, sizeLine_eq]; omega) fun g => ?_)
  refine restT_start (fun nw0 i ys nw => nw = nw0 ∧ (ys.isEmpty = (o.rows.take i).all fun z => z.things.isEmpty)) ⟨rfl, rfl⟩ ?_ ?_
  rotate_left
  · rintro i v ys nw I oI C oC D m₂ h tk E' hi1 hP ⟨rfl, hy⟩ hC hx' F9 N9 off ne
    have hi' : i < o.rows.length := by simpa using hi1
    have hri : o.rows[i]? = some o.rows[i] := List.getElem?_eq_getElem hi'
    obtain rfl : v = .ref (o.rows[i]).lr := by simpa [hi'] using hP.symm
    obtain ⟨cz, hz⟩ := hrows _ (List.getElem_mem hi')
    rw [List.take_add_one, hri, List.all_append]
    generalize o.rows[i] = z at *
    have hze : (z.things.map fun x => Value.ref x.a).isEmpty = z.things.isEmpty := by simp
    generalize (z.things.map fun x => Value.ref x.a) = tv at *
    cases hte : z.things.isEmpty with
    | true =>
      have htv : tv.isEmpty = true := by rw [hze, hte]
      k_steps
      refine Hold.mk (LCg.CompEnd.intro (by k_asm) (cb_drop (by assumption) fun p hp => List.mem_cons_of_mem _ hp) _ (fun p hp => hp) off (.inr ⟨_, by k_mem, rfl, _, rfl⟩) ⟨rfl, ?_⟩)
      simp [hy, hte]
    | false =>
      have htv : tv.isEmpty = false := by rw [hze, hte]
      k_steps
      refine Hold.mk (LCg.CompEnd.intro (by k_asm) (cb_drop (by assumption) fun p hp => List.mem_cons_of_mem _ hp) _ (fun p hp => hp) off (.inr ⟨_, by k_mem, rfl, _, rfl⟩) ⟨rfl, ?_⟩)
      simp [hy, hte]
  rintro yv nw ⟨rfl, hy⟩ so h9 tk9 F9 N9 o9
  have e9 : o.rows.take (o.rows.map fun r => Value.ref r.lr).toArray.size = o.rows := by simp
  rw [e9] at hy
  have nso : @Ne Nat o.d so ∧ @Ne Nat o.la so ∧ @Ne Nat r.lr so ∧ LCg.Off1 so rest := by simp only [LCg.Off1] at o9; first | exact o9 | exact ⟨o9.1, o9.2.1, o9.2.2.1, o9.2.2.2⟩
  refine gl fun G9 hG9 => ?_
  obtain ⟨nso1, nso2, nso3, nso4⟩ := nso
  refine hG9 ?_
  clear hG9 G9
  obtain ⟨lx, hlx⟩ : ∃ lx, o.last[k]? = some lx := by
    have := (List.getElem?_eq_some_iff.mp hr).1
    exact ⟨_, List.getElem?_eq_getElem (by omega)⟩
  have hkl : k < o.rows.length := (List.getElem?_eq_some_iff.mp hr).1
  have hk0 : (0 : Int) ≤ (k : Int) := by omega
  have hkf : (k : Int) < 2 ^ 63 := by omega
  have hkw : (k : Int) < o.weights.length := by omega
  have hlk : (o.last.map fun r => Value.ref r.1)[((k : Int)).toNat]? = some (.ref lx.1) := by simp [hlx]
  have hrk : (o.rows.map fun r => Value.ref r.lr)[((k : Int)).toNat]? = some (.ref r.lr) := by simp [hr]
  have slx := sl _ (List.mem_of_getElem? hlx)
  have flx := hlast _ (List.mem_of_getElem? hlx)
  have swk : Sm (o.weights.getD ((k : Int)).toNat 0) := by
    refine sw _ ?_
    have hk' : ((k : Int)).toNat < o.weights.length := by omega
    rw [List.getD_eq_getElem?_getD, List.getElem?_eq_getElem hk']; exact List.getElem_mem _
  have hD : ob.IsDictOf (strKind prog w) [("weights", .ref o.wl), ("rows", .ref o.ro), ("last", .ref o.la), ("time", .ref o.tm)] := hob
  cases hae : o.rows.all fun z => z.things.isEmpty with
  | true =>
    rw [hae] at hy
    k_steps
    refine Hold.mk ?_
    refine' own_set_last ?F ?N ?U ?d ?_
    case F => k_asm
    case N => k_asm
    case d => exact hD
    case U => k_updF
    intro h10 ob10 tk10 F10 N10 D10
    (try dsimp only at N10 ⊢)
    (try k_sweep)
    (try k_fold)
    k_steps
    refine Hold.mk ?_
    refine' own_set_time ?F ?N ?U ?d ?_
    case F => k_asm
    case N => k_asm
    case d => exact D10
    case U => k_updF
    intro h11 ob11 tk11 F11 N11 D11
    (try dsimp only at N11 ⊢)
    (try k_sweep)
    (try k_fold)
    k_steps
    refine Hold.mk (my_item (by k_asm) (by k_mem) (List.getElem?_replicate_of_lt (by omega)) hk0 hkf ?_)
    k_steps
    refine Hold.mk ?_
    k_dflt (refine' greater_g (n1 := 0) (d1 := 1) (n2 := 0) (d2 := 1) ?k1 ?k2 ?k3 ?k4 ?k5 ?N ?x ?y ?a ?b ?c ?d ?e ?f ?_; (case k1 => k_asm); (case k2 => k_asm); (case k3 => k_asm); (case k4 => k_asm); (case k5 => first | exact rfl | assumption); (case N => k_asm); (case x => exact ⟨_, _, _, by k_mem⟩); (case y => exact ⟨_, _, _, by k_mem⟩); (case a => exact sm0); (case b => exact sm1); (case c => exact sm0); (case d => exact sm1); (case e => k_room); (case f => k_units))
    intro z bn bd h12 tk12 hg hz hzz sn sd F12 N12
    refine gl fun G9 hG9 => ?_
    obtain ⟨zt1, zt2, zc, hzm⟩ := hzz
    refine hG9 ?_
    clear hG9 G9
    (try dsimp only at N12 ⊢)
    (try k_fold)
    k_steps
    refine Hold.mk (my_itemI (by k_asm) (by k_mem) hwv hk0 hkw hkf fun tw => ?_)
    k_steps
    refine Hold.mk ?_
    refine' my_setv ?F ?N hk0 hkf ?U ?l ?_
    case F => k_asm
    case N => k_asm
    case U => k_upd
    case l => (simp only [List.length_replicate, List.length_map]; omega)
    intro h13 F13 N13
    (try dsimp only at N13 ⊢)
    (try k_sweep)
    (try k_fold)
    k_steps
    refine Hold.mk (my_item (by k_asm) (by k_mem) hrk hk0 hkf ?_)
    k_steps
    refine Hold.mk (my_item (by k_asm) (by k_mem) (List.getElem?_set_self (by simp only [List.length_replicate]; omega)) hk0 hkf ?_)
    k_steps
    rename News h₀ L _ _ => NZ
    refine ret _ _ _ (lputA NZ hae hkl (by k_mem) D11 (by k_mem) (by k_mem) (by k_mem) (by k_mem) (by k_mem) (by k_mem) hg ⟨by k_ne, by k_ne, ne7 (by assumption)⟩) (fun p hp => by simp only [List.mem_cons, hp, or_true]) (by k_asm) NZ
  | false =>
    rw [hae] at hy
    k_steps
    refine Hold.mk (my_item (by k_asm) (by k_mem) hlk hk0 hkf ?_)
    k_steps
    refine Hold.mk ?_
    k_dflt (refine' greater_g (n1 := lx.2.1) (d1 := lx.2.2) (n2 := o.tn) (d2 := o.td) ?k1 ?k2 ?k3 ?k4 ?k5 ?N ?x ?y ?a ?b ?c ?d ?e ?f ?_; (case k1 => k_asm); (case k2 => k_asm); (case k3 => k_asm); (case k4 => k_asm); (case k5 => first | exact rfl | assumption); (case N => k_asm); (case x => exact flx.mono fun p hp => by simp only [List.mem_cons, hp, or_true]); (case y => exact htm.mono fun p hp => by simp only [List.mem_cons, hp, or_true]); (case a => exact slx.1); (case b => exact slx.2); (case c => exact st1); (case d => exact st2); (case e => k_room); (case f => k_units))
    intro z bn bd h12 tk12 hg hz hzz sn sd F12 N12
    refine gl fun G9 hG9 => ?_
    obtain ⟨zt1, zt2, zc, hzm⟩ := hzz
    refine hG9 ?_
    clear hG9 G9
    (try dsimp only at N12 ⊢)
    (try k_fold)
    k_steps
    refine Hold.mk (my_itemI (by k_asm) (by k_mem) hwv hk0 hkw hkf fun tw => ?_)
    k_steps
    refine Hold.mk ?_
    refine' my_setv ?F ?N hk0 hkf ?U ?l ?_
    case F => k_asm
    case N => k_asm
    case U => k_upd
    case l => (simp only [List.length_replicate, List.length_map]; omega)
    intro h13 F13 N13
    (try dsimp only at N13 ⊢)
    (try k_sweep)
    (try k_fold)
    k_steps
    refine Hold.mk (my_item (by k_asm) (by k_mem) hrk hk0 hkf ?_)
    k_steps
    refine Hold.mk (my_item (by k_asm) (by k_mem) (List.getElem?_set_self (by simp only [List.length_map]; omega)) hk0 hkf ?_)
    k_steps
    rename News h₀ L _ _ => NZ
    exact ret _ _ _ (lputB NZ hae (by k_mem) hD (by k_mem) (by k_mem) (by k_mem) (by k_mem) hlx hg (htm.mono fun p hp => by simp only [List.mem_cons, hp, or_true]) (fun x hx => (hlast x hx).mono fun p hp => by simp only [List.mem_cons, hp, or_true])) (fun p hp => by simp only [List.mem_cons, hp, or_true]) (by k_asm) NZ
end

theorem ln22 : True := by
  k_with "off42" => skip
  trivial
end Part15
section Part16
inductive LPutQ (o : OwnS) (k : Nat) (size thing : Int) (o' : OwnS) : Prop
  | mk (r : ORow) (la' tm' Ta Fa x : Addr) (last0 : List (Addr × Int × Int)) (tn0 td0 ln ld bn bd : Int) (h1 : o.rows[k]? = some r) (h2 : (allE o = true ∧ (∃ x, last0 = List.replicate o.rows.length (x, 0, 1)) ∧ tn0 = 0 ∧ td0 = 1) ∨ (allE o = false ∧ last0 = o.last ∧ tn0 = o.tn ∧ td0 = o.td))
    (h3 : last0[k]? = some (x, ln, ld)) (h4 : Grt ln ld tn0 td0 bn bd) (h5 :
    o' = { o with la := la', tm := tm', tn := tn0, td := td0, last := last0.set k (Fa, bn * o.weights.getD k 0 + size * bd, bd * o.weights.getD k 0), rows := o.rows.set k { r with things := r.things ++ [⟨Ta, Fa, bn * o.weights.getD k 0 + size * bd, bd * o.weights.getD k 0, size, thing⟩] } }) : LPutQ o k size thing o'
noncomputable def mutO (o : OwnS) (r : ORow) : List Addr := [o.d, o.la, r.lr]
noncomputable def restO (o : OwnS) (r : ORow) (news : List (Addr × Obj)) : List (Addr × Obj) := news.filter fun p => decide (p.1 ∉ mutO o r)
theorem restO_in {o : OwnS} {r : ORow} {news : List (Addr × Obj)} {p : Addr × Obj} (h : p ∈ news) (e : p.1 ∉ mutO o r) : p ∈ restO o r news := List.mem_filter.mpr ⟨h, by simpa using e⟩
theorem restO_ne {o : OwnS} {r : ORow} {news : List (Addr × Obj)} : ∀ p ∈ restO o r news, p.1 ≠ o.d ∧ p.1 ≠ o.la ∧ p.1 ≠ r.lr := fun p hp => by
  have := (List.mem_filter.mp hp).2
  simpa [mutO] using this
structure PartsO (prog : Program) (w : World) (news : List (Addr × Obj)) (o : OwnS) (r : ORow) (ob : Obj) (c1 c2 c3 c4 : Nat) (wv : List Value) : Prop where
  hd : (o.d, ob) ∈ news
  hob : ob.IsDictOf (strKind prog w) (ownKvs o)
  hla : (o.la, listOf (o.last.map fun r => Value.ref r.1).toArray c1) ∈ news
  hlr : (r.lr, listOf (r.things.map fun x => Value.ref x.a).toArray c2) ∈ news
  hro : (o.ro, listOf (o.rows.map fun r => Value.ref r.lr).toArray c3) ∈ restO o r news
  hwl : (o.wl, listOf wv.toArray c4) ∈ restO o r news
  hwv : IntsAre wv o.weights
inductive PartsOE (prog : Program) (w : World) (news : List (Addr × Obj)) (o : OwnS) (r : ORow) : Prop
  | mk (ob : Obj) (c1 c2 c3 c4 : Nat) (wv : List Value) (h : PartsO prog w news o r ob c1 c2 c3 c4 wv) : PartsOE prog w news o r
theorem partsO_of {prog : Program} {w : World} {news : List (Addr × Obj)} {o : OwnS} {r : ORow} {pre post : List ORow} (ho : OwnIn prog w news o) (hnd : (adrO o).Nodup) (e : o.rows = pre ++ r :: post) :
    PartsOE prog w news o r ∧ (@Ne Nat o.d o.la ∧ @Ne Nat o.d r.lr ∧ @Ne Nat o.la r.lr) ∧ (∀ z ∈ pre ++ post, z.lr ∉ mutO o r) := by
  refine gl fun G9 hG9 => ?_
  obtain ⟨lo, ⟨ob, h1, h2⟩, ⟨c4, wv, h3, h4⟩, ⟨c3, h5⟩, ⟨c1, h6⟩, h7, h8, h9⟩ := ho
  refine hG9 ?_
  clear hG9 G9
  obtain ⟨⟨c2, g1⟩, _⟩ := h9 r (by rw [e]; simp)
  have hp : (o.rows.map fun r => r.lr).Perm (r.lr :: (pre ++ post).map fun r => r.lr) := by
    rw [e]; exact (List.perm_middle (l₁ := pre) (a := r) (l₂ := post)).map _
  have P : (o.d :: o.wl :: o.la :: o.ro :: r.lr :: (pre ++ post).map fun r => r.lr).Nodup := ((List.Perm.cons _ (List.Perm.cons _ (List.Perm.cons _ (List.Perm.cons _ hp)))).nodup_iff).mp hnd
  simp only [List.nodup_cons, List.mem_cons, not_or] at P
  refine gl fun G9 hG9 => ?_
  obtain ⟨⟨d1, d2, d3, d4, d5⟩, ⟨w2, w3, w4, w5⟩, ⟨l3, l4, l5⟩, ⟨r4, r5⟩, x5, _⟩ := P
  refine hG9 ?_
  clear hG9 G9
  refine ⟨⟨ob, c1, c2, c3, c4, wv, ⟨h1, h2, h6, g1, restO_in h5 ?_, restO_in h3 ?_, h4⟩⟩, ⟨d2, d4, l4⟩, fun z hz hm => ?_⟩
  · simp only [mutO, List.mem_cons, List.not_mem_nil, or_false, not_or]; exact ⟨Ne.symm d3, Ne.symm l3, r4⟩
  · simp only [mutO, List.mem_cons, List.not_mem_nil, or_false, not_or]; exact ⟨Ne.symm d1, w2, w4⟩
  · have hz' : z.lr ∈ (pre ++ post).map fun r => r.lr := List.mem_map.mpr ⟨z, hz, rfl⟩
    simp only [mutO, List.mem_cons, List.not_mem_nil, or_false] at hm
    rcases hm with h | h | h
    · exact d5 (h ▸ hz')
    · exact l5 (h ▸ hz')
    · exact x5 (h ▸ hz')
theorem PartsO.cls {prog : Program} {w : World} {h₀ h : Heap} {L : Addr} {news : List (Addr × Obj)} {o : OwnS} {r : ORow} {ob : Obj} {c1 c2 c3 c4 : Nat} {wv : List Value} (P : PartsO prog w news o r ob c1 c2 c3 c4 wv) (N : News h₀ L h news) {a : Addr} {vs : List Value} {n : Nat} (ha : (a, tupO vs n) ∈ news) : (a, tupO vs n) ∈ restO o r news := by
  refine restO_in ha fun hm => ?_
  simp only [mutO, List.mem_cons, List.not_mem_nil, or_false] at hm
  rcases hm with h | h | h
  · have e := congrArg (fun p : Addr × Obj => p.2.cls) (news_fun N ha P.hd h)
    have e2 : ob.cls = .type "dict" := by obtain ⟨_, _, h, _⟩ := P.hob; exact h.1
    simp [e2] at e
  · have := congrArg (fun p : Addr × Obj => p.2.cls) (news_fun N ha P.hla h); simp at this
  · have := congrArg (fun p : Addr × Obj => p.2.cls) (news_fun N ha P.hlr h); simp at this
theorem PartsO.fr {prog : Program} {w : World} {h₀ h : Heap} {L : Addr} {news : List (Addr × Obj)} {o : OwnS} {r : ORow} {ob : Obj} {c1 c2 c3 c4 : Nat} {wv : List Value} (P : PartsO prog w news o r ob c1 c2 c3 c4 wv) (N : News h₀ L h news) {a : Addr} {x y : Int} (ha : FrIn news a x y) : FrIn (restO o r news) a x y := by
  refine gl fun G9 hG9 => ?_
  obtain ⟨t1, t2, c, h⟩ := ha
  refine hG9 ?_
  clear hG9 G9
  exact ⟨t1, t2, c, P.cls N h⟩
theorem PartsO.sub {prog : Program} {w : World} {h₀ h : Heap} {L : Addr} {news : List (Addr × Obj)} {o : OwnS} {r : ORow} {ob : Obj} {c1 c2 c3 c4 : Nat} {wv : List Value} (P : PartsO prog w news o r ob c1 c2 c3 c4 wv) (N : News h₀ L h news) :
    ∀ p ∈ news, p ∈ (o.d, ob) :: (o.la, listOf (o.last.map fun r => Value.ref r.1).toArray c1) :: (r.lr, listOf (r.things.map fun x => Value.ref x.a).toArray c2) :: restO o r news := by
  intro p hp
  by_cases hm : p.1 ∈ mutO o r
  · simp only [mutO, List.mem_cons, List.not_mem_nil, or_false] at hm
    rcases hm with h | h | h
    · rw [news_fun N hp P.hd h]; simp
    · rw [news_fun N hp P.hla h]; simp
    · rw [news_fun N hp P.hlr h]; simp
  · simp only [List.mem_cons, restO_in hp hm, or_true]
theorem PartsO.back {prog : Program} {w : World} {h₀ h : Heap} {L : Addr} {news : List (Addr × Obj)} {o : OwnS} {r : ORow} {ob : Obj} {c1 c2 c3 c4 : Nat} {wv : List Value} (P : PartsO prog w news o r ob c1 c2 c3 c4 wv) (N : News h₀ L h news) :
    News h₀ L h ((o.d, ob) :: (o.la, listOf (o.last.map fun r => Value.ref r.1).toArray c1) :: (r.lr, listOf (r.things.map fun x => Value.ref x.a).toArray c2) :: restO o r news) := fun p hp => by
  simp only [List.mem_cons] at hp
  rcases hp with rfl | rfl | rfl | hp
  · exact N _ P.hd
  · exact N _ P.hla
  · exact N _ P.hlr
  · exact N _ (List.mem_filter.mp hp).1
theorem ORowIn.rest {prog : Program} {w : World} {h₀ h : Heap} {L : Addr} {news news' : List (Addr × Obj)} {o : OwnS} {r z : ORow} {ob : Obj} {c1 c2 c3 c4 : Nat} {wv : List Value} (P : PartsO prog w news o r ob c1 c2 c3 c4 wv) (N : News h₀ L h news) (hz : ORowIn news z) (hl : z.lr ∉ mutO o r) (hs : ∀ p ∈ restO o r news, p ∈ news') : ORowIn news' z := by
  obtain ⟨⟨c, h1⟩, h2⟩ := hz
  refine ⟨⟨c, hs _ (restO_in h1 hl)⟩, fun x hx => ?_⟩
  refine gl fun G9 hG9 => ?_
  obtain ⟨⟨u1, u2, c, g1⟩, g2⟩ := h2 x hx
  refine hG9 ?_
  clear hG9 G9
  exact ⟨⟨u1, u2, c, hs _ (P.cls N g1)⟩, (P.fr N g2).mono hs⟩
theorem split_atG {α : Type} {rows : List α} {k : Nat} {r : α} (h : rows[k]? = some r) : ∃ pre post, rows = pre ++ r :: post ∧ pre.length = k ∧ ∀ r', rows.set k r' = pre ++ r' :: post := by
  have hk : k < rows.length := (List.getElem?_eq_some_iff.mp h).1
  have e : rows[k] = r := (List.getElem?_eq_some_iff.mp h).2
  refine ⟨rows.take k, rows.drop (k + 1), ?_, by simp; omega, fun r' => ?_⟩
  · conv => lhs; rw [← List.take_append_drop k rows, List.drop_eq_getElem_cons hk, e]
  · exact List.set_eq_take_append_cons_drop .. |>.trans (by simp [hk])
theorem map_set_sameG {α β : Type} (f : α → β) {rows : List α} {k : Nat} {r r' : α} (h : rows[k]? = some r) (e : f r' = f r) : (rows.set k r').map f = rows.map f := by
  refine gl fun G9 hG9 => ?_
  obtain ⟨pre, post, e1, _, e2⟩ := split_atG h
  refine hG9 ?_
  clear hG9 G9
  rw [e2, e1]; simp [e]
section
variable {prog : Program} {w : World} {p : Program} {loose : List Str} {mean : ExcName → Option Value} {mg mb : Str → Option Value}
    {dp un : Nat} {gd : Option (List Code)} {cn : Str} {cs : Scope} {a : Addr} {ccd : Value} {cl : List (Str × Addr)} {outer : List Env} {A₀ : Around} {base h₀ : Heap} {L : Addr} {m : Str → Option Value} {s : Shared} {Q E : Value → Shared → Prop}
    {news : List (Addr × Obj)}
set_option maxHeartbeats 4000000 in
theorem lput_c {o : OwnS} {k : Nat} {size thing : Int} {u1 u2 u3 : Tok}
    (B : Below A₀ base outer h₀) (F : Fr h₀ L s.heap m) (X : (hK w.params).In h₀) (T : Top p loose mean mg mb h₀) (hk : cs.kind = .function) (N : News h₀ L s.heap news) (ho : OwnIn prog w news o) (hnd : (adrO o).Nodup) (hkr : k < o.rows.length) (hll : o.last.length = o.rows.length) (hwll : o.weights.length = o.rows.length) (hlen : o.rows.length < 100) (htl : ∀ r ∈ o.rows, r.things.length < 1000)
    (st1 : Sm o.tn) (st2 : Sm o.td) (sl : ∀ x ∈ o.last, Sm x.2.1 ∧ Sm x.2.2) (sw : ∀ x ∈ o.weights, Sm x) (ss : Sm size)
    (hdp : dp + 20 < recursionLimit) (hun : un + 200 < cLine)
    (ret : ∀ o' h' tk' news', LPutQ o k size thing o' → OwnIn prog w news' o' → (adrO o').Nodup → (∀ a ∈ adrO o', a ∈ adrO o ∨ ∀ p ∈ news, @Ne Nat p.1 a) → (∀ p ∈ news, p.1 ∉ adrM o → p ∈ news') → Fr h₀ L h' m → News h₀ L h' news' → Q .none { s with heap := h', toks := tk' }) :
    wpAny (model prog w) (ktrTop dp un gd cn cs L a ccd cl outer) (call (.ref 272) [.ref o.d, .int (k : Int) u1, .int size u2, .int thing u3]) Q E s := by
  obtain ⟨r, hr⟩ : ∃ r, o.rows[k]? = some r := ⟨o.rows[k], List.getElem?_eq_getElem hkr⟩
  refine gl fun G9 hG9 => ?_
  obtain ⟨pre, post, e, hpl, hset⟩ := split_atG hr
  refine hG9 ?_
  clear hG9 G9
  have hrm : r ∈ o.rows := List.mem_of_getElem? hr
  refine gl fun G9 hG9 => ?_
  obtain ⟨⟨ob, c1, c2, c3, c4, wv, P⟩, hne, hoth⟩ := partsO_of ho hnd e
  refine hG9 ?_
  clear hG9 G9
  have hE := P.sub N
  have ho' := ho
  refine gl fun G9 hG9 => ?_
  obtain ⟨lo, _, _, _, _, htm, hlast, hrows⟩ := ho
  refine hG9 ?_
  clear hG9 G9
  refine lput_w (o := o) (r := r) B F X T hk (P.back N) P.hob lo P.hro P.hwl P.hwv (fun p hp => (restO_ne p hp).1) (fun p hp => (restO_ne p hp).2.1) (fun p hp => (restO_ne p hp).2.2) hne (fun z hz => ?_) (P.fr N htm) (fun x hx => P.fr N (hlast x hx)) hr hll hwll hlen (htl r hrm) st1 st2 sl sw ss hdp hun ?_
  · obtain ⟨⟨c, h1⟩, _⟩ := hrows z hz
    exact ⟨c, hE _ h1⟩
  rintro h' tk' news' ⟨la', tm', Ta, Fa, last0, tn0, td0, bn, bd, hcase, ⟨x, ln, ld, hlx, hg⟩, ⟨ob', g1, g2⟩, ⟨cl', g3⟩, ⟨cr', g4⟩, ⟨v1, v2, v3, g5⟩, g6, g7, g8⟩ hsub F' N'
  refine ret { o with la := la', tm := tm', tn := tn0, td := td0, last := last0.set k (Fa, bn * o.weights.getD k 0 + size * bd, bd * o.weights.getD k 0), rows := o.rows.set k { r with things := r.things ++ [⟨Ta, Fa, bn * o.weights.getD k 0 + size * bd, bd * o.weights.getD k 0, size, thing⟩] } } h' tk' news' ?_ ?_ ?_ ?_ ?_ F' N'
  · refine ⟨r, la', tm', Ta, Fa, x, last0, tn0, td0, ln, ld, bn, bd, hr, ?_, hlx, hg, rfl⟩
    rcases hcase with ⟨a, b, c, d, _⟩ | ⟨a, _, b, c, d⟩
    · exact .inl ⟨a, b, c, d⟩
    · exact .inr ⟨a, b, c, d⟩
  · refine ⟨lo, ⟨ob', g1, g2⟩, ⟨c4, wv, hsub _ P.hwl, P.hwv⟩, ⟨c3, ?_⟩, ⟨cl', ?_⟩, g7, fun z hz => ?_, fun z hz => ?_⟩
    · show (o.ro, listOf ((o.rows.set k _).map fun r => Value.ref r.lr).toArray c3) ∈ news'
      rw [map_set_sameG (fun r : ORow => Value.ref r.lr) (r' := { r with things := r.things ++ [⟨Ta, Fa, bn * o.weights.getD k 0 + size * bd, bd * o.weights.getD k 0, size, thing⟩] }) hr rfl]; exact hsub _ P.hro
    · show (la', listOf ((last0.set k _).map fun r => Value.ref r.1).toArray cl') ∈ news'
      rw [List.map_set]; exact g3
    · rcases List.mem_or_eq_of_mem_set hz with hz | rfl
      · exact g8 z hz
      · exact g6
    · have hz : z ∈ o.rows.set k _ := hz
      rw [hset] at hz
      rcases List.mem_append.mp hz with hz | hz
      · exact ORowIn.rest P N (hrows z (by rw [e]; simp [hz])) (hoth z (by simp [hz])) hsub
      · rcases List.mem_cons.mp hz with rfl | hz
        · refine ⟨⟨cr', by simpa using g4⟩, fun y hy => ?_⟩
          rcases List.mem_append.mp hy with hy | hy
          · obtain ⟨⟨u1, u2, c, q1⟩, q2⟩ := (hrows r hrm).2 y hy
            exact ⟨⟨u1, u2, c, hsub _ (P.cls N q1)⟩, (P.fr N q2).mono hsub⟩
          · obtain rfl := List.mem_singleton.mp hy
            exact ⟨⟨v1, v2, v3, g5⟩, g6⟩
        · exact ORowIn.rest P N (hrows z (by rw [e]; simp [hz])) (hoth z (by simp [hz])) hsub
  · show (o.d :: o.wl :: la' :: o.ro :: (o.rows.set k _).map fun r => r.lr).Nodup
    rw [map_set_sameG (fun r : ORow => r.lr) (r' := { r with things := r.things ++ [⟨Ta, Fa, bn * o.weights.getD k 0 + size * bd, bd * o.weights.getD k 0, size, thing⟩] }) hr rfl]
    rcases hcase with ⟨_, _, _, _, n1, n2, n3⟩ | ⟨_, rfl, _⟩
    · have f1 : @Ne Nat o.wl la' := n3 _ P.hwl
      have f2 : @Ne Nat o.ro la' := n3 _ P.hro
      have f3 : la' ∉ o.rows.map fun r => r.lr := fun hm => by
        obtain ⟨z, hz, e1⟩ := List.mem_map.mp hm
        rw [e] at hz
        rcases List.mem_append.mp hz with hz | hz
        · obtain ⟨⟨c, h1⟩, _⟩ := hrows z (by rw [e]; simp [hz])
          exact n3 _ (restO_in h1 (hoth z (by simp [hz]))) e1
        · rcases List.mem_cons.mp hz with rfl | hz
          · exact n2 e1
          · obtain ⟨⟨c, h1⟩, _⟩ := hrows z (by rw [e]; simp [hz])
            exact n3 _ (restO_in h1 (hoth z (by simp [hz]))) e1
      have h1 := hnd
      simp only [adrO, List.nodup_cons, List.mem_cons, not_or] at h1 ⊢
      refine gl fun G9 hG9 => ?_
      obtain ⟨⟨d1, d2, d3, d4⟩, ⟨w2, w3, w4⟩, ⟨l3, l4⟩, r4, x5⟩ := h1
      refine hG9 ?_
      clear hG9 G9
      exact ⟨⟨d1, n1, d3, d4⟩, ⟨f1, w3, w4⟩, ⟨Ne.symm f2, f3⟩, r4, x5⟩
    · exact hnd
  · intro a ha
    have ha : a ∈ o.d :: o.wl :: la' :: o.ro :: (o.rows.set k _).map fun r => r.lr := ha
    rw [map_set_sameG (fun r : ORow => r.lr) (r' := { r with things := r.things ++ [⟨Ta, Fa, bn * o.weights.getD k 0 + size * bd, bd * o.weights.getD k 0, size, thing⟩] }) hr rfl] at ha
    rcases hcase with ⟨_, _, _, _, n1, n2, n3⟩ | ⟨_, rfl, _⟩
    · simp only [List.mem_cons] at ha
      rcases ha with h | h | h | h | h
      · exact .inl (by simp [adrO, h])
      · exact .inl (by simp [adrO, h])
      · by_cases hla : la' = o.la
        · exact .inl (by simp [adrO, h, hla])
        · refine .inr fun p hp => ?_
          rw [h]
          have hp' := hE p hp
          simp only [List.mem_cons] at hp'
          rcases hp' with rfl | rfl | rfl | hp'
          · exact n1
          · exact fun h => hla h.symm
          · exact n2
          · exact n3 p hp'
      · exact .inl (by simp [adrO, h])
      · exact .inl (by simp only [adrO, List.mem_cons, h, or_true])
    · exact .inl ha
  · intro p hp hnot
    refine hsub _ (restO_in hp fun hm => hnot ?_)
    simp only [mutO, List.mem_cons, List.not_mem_nil, or_false] at hm
    simp only [adrM, List.mem_cons]
    rcases hm with h | h | h
    · exact .inl h
    · exact .inr (.inl h)
    · exact .inr (.inr (.inr (List.mem_map.mpr ⟨r, hrm, h.symm⟩)))
end
end Part16
section Part17
theorem wo17 : True := by
  w_top off
  trivial
section
variable {prog : Program} {w : World} {A : Around} {E : Value → Shared → Prop} {s : Shared} {h₀ : Heap} {env : Env} {target : PySem.Expr} {body : List Stmt} {Q : Flow → Shared → Prop} {ws : List (Addr × String)} {keep news : List (Addr × Obj)} {m₀ : Str → Option Value}
theorem UnrPostW.monoR {s₁ : Shared} {its : List (Addr × Obj)} {R R' : (Str → Option Value) → List (Addr × Obj) → Prop} {f : Flow} {s₂ : Shared} (hR : ∀ m n, R m n → R' m n) (h : UnrPostW h₀ env.locals s₁ its R Q f s₂) : UnrPostW h₀ env.locals s₁ its R' Q f s₂ := by
  cases f with
  | ret v => exact h
  | brk => exact h
  | next => obtain ⟨h', tk, m', n', e, F, N, o, r⟩ := h; exact ⟨h', tk, m', n', e, F, N, o, hR _ _ r⟩
  | cont => obtain ⟨h', tk, m', n', e, F, N, o, r⟩ := h; exact ⟨h', tk, m', n', e, F, N, o, hR _ _ r⟩
theorem AllObj.mono : ∀ {ws : List (Addr × String)} {k k' : List (Addr × Obj) → Prop}, (∀ its, k its → k' its) → AllObj ws k → AllObj ws k'
  | [], _, _, h, a => h _ a
  | _ :: _, _, _, h, a => fun o ho => AllObj.mono (fun its => h _) (a o ho)
theorem items_enum {vs : List Value} (hk : SubL keep news) (P : Nat → (Str → Option Value) → Prop) (h0 : P 0 m₀) (fin : ∀ m₁ h tk, P vs.length m₁ → Fr h₀ env.locals h m₁ → News h₀ env.locals h news → Q .next { s with heap := h, toks := tk })
    (step : ∀ i x m₁ T t h tk, vs[i]? = some x → P i m₁ → IsTup h T #[.int (i : Int) t, x] → Fr h₀ env.locals h m₁ → AllObj ws (fun its => News h₀ env.locals h (its ++ news) →
      wpAny (model prog w) A (assign target env (.ref T)) (fun _ s₂ => wpAny (model prog w) A (execs body env) (UnrPostW h₀ env.locals { s with heap := h, toks := tk } its (fun m' n' => n' = news ∧ P (i + 1) m') Q) E s₂) E { s with heap := h, toks := tk })) :
    ItemsRest prog w A E h₀ env target body Q s ws keep (enumItems 0 vs) m₀ news := by
  have key : ∀ (rs : List Value) (i : Nat) (m₁ : Str → Option Value), i + rs.length = vs.length → vs.drop i = rs → P i m₁ → ItemsRest prog w A E h₀ env target body Q s ws keep (enumItems i rs) m₁ news := by
    intro rs
    induction rs with
    | nil => intro i m₁ hi hd hP
             have : i = vs.length := by simpa using hi
             subst this
             exact ItemsRest.zero fun h tk F N => fin m₁ h tk hP F N
    | cons x r ih =>
      intro i m₁ hi hd hP
      have hx : vs[i]? = some x := by
        have := congrArg List.head? hd
        simpa [List.head?_drop] using this
      have hd' : vs.drop (i + 1) = r := by
        have := congrArg List.tail hd
        simpa [List.tail_drop] using this
      refine ItemsRest.pair fun T t h tk hT F => ?_
      refine AllObj.mono (fun its hh N => ?_) (step i x m₁ T t h tk hx hP hT F)
      refine wpAny_mono (hh N) (fun _ s₂ h₂ => wpAny_mono h₂ (fun f s₃ p => UnrPostW.monoR ?_ p) fun _ _ e => e) fun _ _ e => e
      rintro m' n' ⟨rfl, hP'⟩
      exact ⟨hk, ih (i + 1) m' (by simp only [List.length_cons] at hi; omega) hd' hP'⟩
  exact key vs 0 m₀ (Nat.zero_add _) rfl h0
end
noncomputable def Fq (U f n d : Int) : Prop := 0 < d ∧ f * d = U * n
theorem Fq.lt {U f1 n1 d1 f2 n2 d2 : Int} (hU : 0 < U) (h1 : Fq U f1 n1 d1) (h2 : Fq U f2 n2 d2) : n1 * d2 < n2 * d1 ↔ f1 < f2 := by
  obtain ⟨p1, e1⟩ := h1
  obtain ⟨p2, e2⟩ := h2
  have hd : 0 < d1 * d2 := Int.mul_pos p1 p2
  have a1 : U * (n1 * d2) = f1 * (d1 * d2) := by rw [← Int.mul_assoc, ← e1]; ac_rfl
  have a2 : U * (n2 * d1) = f2 * (d1 * d2) := by rw [← Int.mul_assoc, ← e2]; ac_rfl
  constructor
  · intro h
    have := Int.mul_lt_mul_of_pos_left h hU
    rw [a1, a2] at this
    exact Int.lt_of_mul_lt_mul_right this (Int.le_of_lt hd)
  · intro h
    have := Int.mul_lt_mul_of_pos_right h hd
    rw [← a1, ← a2] at this
    exact Int.lt_of_mul_lt_mul_left this (Int.le_of_lt hU)
theorem Fq.grt {U f1 n1 d1 f2 n2 d2 n d : Int} (hU : 0 < U) (h1 : Fq U f1 n1 d1) (h2 : Fq U f2 n2 d2) (hg : Grt n1 d1 n2 d2 n d) : Fq U (if f2 > f1 then f2 else f1) n d := by
  have hl := Fq.lt hU h1 h2
  rcases hg with ⟨a, rfl, rfl⟩ | ⟨a, rfl, rfl⟩
  · rw [if_pos (hl.mp a)]; exact h2
  · rw [if_neg (fun h => a (hl.mpr h))]; exact h1
theorem Fq.put {U b bn bd w st size : Int} (h : Fq U b bn bd) (hw : 0 < w) (hs : st * w = U) : Fq U (b + size * st) (bn * w + size * bd) (bd * w) := by
  obtain ⟨p1, e1⟩ := h
  refine ⟨Int.mul_pos p1 hw, ?_⟩
  have a1 : b * (bd * w) = U * (bn * w) := by rw [← Int.mul_assoc, e1]; ac_rfl
  have a2 : size * st * (bd * w) = U * (size * bd) := by rw [← hs]; ac_rfl
  rw [Int.add_mul, a1, a2, Int.mul_add]
/-- the best of the rows below i, as the loop keeps it -/
noncomputable def BestI (go : Nat → Bool) (F : Nat → Int) (i : Nat) (bv : Value) : Prop :=
  (bv = .none ∧ ∀ j, j < i → go j = false) ∨ ∃ b t, bv = .int (b : Nat) t ∧ b < i ∧ go b = true ∧ ∀ j, j < i → go j = true → F b < F j ∨ (F b = F j ∧ b ≤ j)
theorem BestI.skip {go : Nat → Bool} {F : Nat → Int} {i : Nat} {bv : Value} (h : BestI go F i bv) (hg : go i = false) : BestI go F (i + 1) bv := by
  rcases h with ⟨e, h⟩ | ⟨b, t, e, hb, h1, h2⟩
  · refine .inl ⟨e, fun j hj => ?_⟩
    rcases Nat.lt_succ_iff_lt_or_eq.mp hj with h' | rfl
    · exact h j h'
    · exact hg
  · refine .inr ⟨b, t, e, by omega, h1, fun j hj hj2 => ?_⟩
    rcases Nat.lt_succ_iff_lt_or_eq.mp hj with h' | rfl
    · exact h2 j h' hj2
    · rw [hg] at hj2; cases hj2
theorem BestI.first {go : Nat → Bool} {F : Nat → Int} {i : Nat} {t : Tok} (h : ∀ j, j < i → go j = false) (hg : go i = true) : BestI go F (i + 1) (.int (i : Int) t) := by
  refine .inr ⟨i, t, rfl, by omega, hg, fun j hj hj2 => ?_⟩
  rcases Nat.lt_succ_iff_lt_or_eq.mp hj with h' | rfl
  · rw [h j h'] at hj2; cases hj2
  · exact .inr ⟨rfl, Nat.le_refl _⟩
theorem BestI.less {go : Nat → Bool} {F : Nat → Int} {i b : Nat} {t : Tok} (h2 : ∀ j, j < i → go j = true → F b < F j ∨ (F b = F j ∧ b ≤ j)) (hg : go i = true) (hl : F i < F b) : BestI go F (i + 1) (.int (i : Int) t) := by
  refine .inr ⟨i, t, rfl, by omega, hg, fun j hj hj2 => ?_⟩
  rcases Nat.lt_succ_iff_lt_or_eq.mp hj with h' | rfl
  · have := h2 j h' hj2; omega
  · exact .inr ⟨rfl, Nat.le_refl _⟩
theorem BestI.stay {go : Nat → Bool} {F : Nat → Int} {i b : Nat} {t : Tok} (hb : b < i) (h1 : go b = true) (h2 : ∀ j, j < i → go j = true → F b < F j ∨ (F b = F j ∧ b ≤ j)) (hl : ¬ F i < F b) : BestI go F (i + 1) (.int (b : Int) t) := by
  refine .inr ⟨b, t, rfl, by omega, h1, fun j hj hj2 => ?_⟩
  rcases Nat.lt_succ_iff_lt_or_eq.mp hj with h' | rfl
  · exact h2 j h' hj2
  · omega
inductive LTakenQ (o : OwnS) (k : Nat) (size thing : Int) (o' : OwnS) : Prop
  | mk (r : ORow) (x : OThing) (rest : List OThing) (tm' : Addr) (tn' td' : Int) (h1 : o.rows[k]? = some r) (h2 : r.things = x :: rest) (h3 : x.size = size) (h4 : x.thing = thing) (h5 : Grt o.tn o.td x.num x.den tn' td') (h6 :
    o' = { o with tm := tm', tn := tn', td := td', rows := o.rows.set k { r with things := rest } }) : LTakenQ o k size thing o'
theorem ln23 : True := by
  k_with "my call builtin:list.pop" => ((fail_if_success (k_extra "off46")); (k_here; k_dflt (refine' my_pop0 ?F9q56 ?N9q56 ?U9q56 ?z9q56 ?_; (case F9q56 => k_asm); (case N9q56 => k_asm); (case U9q56 => k_upd); (case z9q56 => ((try simp only [List.length_map]); assumption)); k_whole); intro h9q F9q N9q; (try dsimp only at N9q ⊢); (try k_sweep); (try k_fold)))
  k_with "my exec For Tuple Call cons nil" => ((fail_if_success (k_extra "off46")); (k_here; (rename Fr _ _ _ _ => lF9q); (with_unfolding_all refine' For_turns lF9q ?_; k_whole)))
  k_with "my call type:enumerate" => ((fail_if_success (k_extra "off46")); (k_here; refine Hold.out ?_))
  k_with "my call ref" => ((fail_if_success (k_extra "off46")); (k_here; refine hold_ref [267, 260] rfl ?_))
  k_with "my setItem ref str ref" => ((fail_if_success (k_extra "off46")); (k_here; (refine Hold.out ?_)))
  trivial
theorem unr_end {h₀ h' : Heap} {L I : Addr} {m' : Str → Option Value} {all news : List (Addr × Obj)} {o1 o2 : Obj} {s₁ : Shared} {tk : Nat} {R : (Str → Option Value) → List (Addr × Obj) → Prop} (F : Fr h₀ L h' m') (N : News h₀ L h' all) (hI : ∀ p ∈ news, @LT.lt Nat _ p.1 I) (hs : ∀ p ∈ (I + 1, o1) :: (I, o2) :: news, p ∈ all) (r : R m' news) :
    UnrEndW h₀ L s₁ [(I + 1, o1), (I, o2)] R { s₁ with heap := h', toks := tk } :=
  ⟨h', tk, m', news, rfl, F, fun p hp => N p (hs p hp), fun p hp q hq e => by
    have h1 := hI p hp
    have h2 : @Eq Nat p.1 q.1 := e
    simp only [List.mem_cons, List.not_mem_nil, or_false] at hq
    rcases hq with rfl | rfl
    · dsimp only at h2; omega
    · dsimp only at h2; omega, r⟩
theorem ln24 : True := by
  k_with "my subscriptTail Name Constant ref int" => ((fail_if_success (k_extra "off46")); walk_at "item")
  k_with "my subscriptTail Subscript Name Constant Name ref int" => ((fail_if_success (k_extra "off46")); walk_at "item")
  k_with "my subscriptTail Subscript Subscript Name Constant ref int" => ((fail_if_success (k_extra "off46")); walk_at "item")
  k_with "my subscriptTail Subscript Subscript Constant ref int" => ((fail_if_success (k_extra "off46")); walk_at "item")
  k_with "my subscriptTail Subscript Subscript Name Constant Name Constant ref int" => ((fail_if_success (k_extra "off46")); walk_at "item")
  k_with "my subscriptTail Subscript Name Constant Constant ref int" => ((fail_if_success (k_extra "off46")); (k_here; (with_reducible show wpAny _ _ (subscriptTail _ _ (Value.ref _) (Value.int 0 _)) _ _ _); k_dflt (refine' my_tup30 ?N9q66 ?m9q66 ?_; (case N9q66 => k_asm); (case m9q66 => k_mem); k_whole)))
  k_with "my subscriptTail Subscript Subscript Constant Constant ref int" => ((fail_if_success (k_extra "off46")); (k_here; (with_reducible show wpAny _ _ (subscriptTail _ _ (Value.ref _) (Value.int 0 _)) _ _ _); k_dflt (refine' my_tup30 ?N9q67 ?m9q67 ?_; (case N9q67 => k_asm); (case m9q67 => k_mem); k_whole)))
  trivial
section
variable {prog : Program} {w : World} {p : Program} {loose : List Str} {mean : ExcName → Option Value} {mg mb : Str → Option Value}
    {dp un : Nat} {gd : Option (List Code)} {cn : Str} {cs : Scope} {a : Addr} {ccd : Value} {cl : List (Str × Addr)} {outer : List Env} {A₀ : Around} {base h₀ : Heap} {L : Addr} {m : Str → Option Value} {s : Shared} {Q E : Value → Shared → Prop}
    {news : List (Addr × Obj)}
theorem greater_r {x y : Addr} {n1 d1 n2 d2 : Int} {rest : List (Addr × Obj)}
    (B : Below A₀ base outer h₀) (F : Fr h₀ L s.heap m) (X : (hK w.params).In h₀) (T : Top p loose mean mg mb h₀) (hk : cs.kind = .function) (N : News h₀ L s.heap news) (hs : ∀ p ∈ rest, p ∈ news) (hx : FrIn rest x n1 d1) (hy : FrIn rest y n2 d2) (s1 : Sm n1) (s2 : Sm d1) (s3 : Sm n2) (s4 : Sm d2)
    (hdp : dp + 6 < recursionLimit) (hun : un + 60 < cLine)
    (ret : ∀ z n d h' tk', Grt n1 d1 n2 d2 n d → FrIn rest z n d → Fr h₀ L h' m → News h₀ L h' news → Q (.ref z) { s with heap := h', toks := tk' }) :
    wpAny (model prog w) (ktrTop dp un gd cn cs L a ccd cl outer) (call (.ref 267) [.ref x, .ref y]) Q E s := by
  refine greater_c B F X T hk N (hx.mono hs) (hy.mono hs) s1 s2 s3 s4 hdp hun fun h' tk' F' N' => ?_
  by_cases hlt : n1 * d2 < n2 * d1
  · rw [if_pos hlt]; exact ret _ _ _ _ _ (.inl ⟨hlt, rfl, rfl⟩) hy F' N'
  · rw [if_neg hlt]; exact ret _ _ _ _ _ (.inr ⟨hlt, rfl, rfl⟩) hx F' N'
end
theorem ltaken_fin {prog : Program} {w : World} {h₀ h : Heap} {L : Addr} {news news' : List (Addr × Obj)} {o : OwnS} {r : ORow} {x : OThing} {restT : List OThing} {pre post : List ORow} {ob ob2 : Obj} {c1 c2 c3 c4 c' : Nat} {wv : List Value} {k : Nat} {tm' : Addr} {tn' td' : Int}
    (P : PartsO prog w news o r ob c1 c2 c3 c4 wv) (N : News h₀ L h news) (ho : OwnIn prog w news o) (hr : o.rows[k]? = some r) (e : o.rows = pre ++ r :: post) (hset : ∀ r', o.rows.set k r' = pre ++ r' :: post) (hoth : ∀ z ∈ pre ++ post, z.lr ∉ mutO o r) (hth : r.things = x :: restT)
    (m1 : (o.d, ob2) ∈ news') (hd2 : ob2.IsDictOf (strKind prog w) [("weights", .ref o.wl), ("rows", .ref o.ro), ("last", .ref o.la), ("time", .ref tm')]) (m2 : (o.la, listOf (o.last.map fun r => Value.ref r.1).toArray c1) ∈ news') (m3 : (r.lr, listOf (restT.map fun x => Value.ref x.a).toArray c') ∈ news')
    (htm : FrIn (restO o r news) tm' tn' td') (hs : ∀ p ∈ restO o r news, p ∈ news') : OwnIn prog w news' { o with tm := tm', tn := tn', td := td', rows := o.rows.set k { r with things := restT } } ∧ (adrO { o with tm := tm', tn := tn', td := td', rows := o.rows.set k { r with things := restT } } = adrO o) ∧ ∀ p ∈ news, p.1 ∉ adrM o → p ∈ news' := by
  have hrm : r ∈ o.rows := List.mem_of_getElem? hr
  refine gl fun G9 hG9 => ?_
  obtain ⟨lo, _, _, _, _, _, hlast, hrows⟩ := ho
  refine hG9 ?_
  clear hG9 G9
  refine ⟨⟨lo, ⟨ob2, m1, hd2⟩, ⟨c4, wv, hs _ P.hwl, P.hwv⟩, ⟨c3, ?_⟩, ⟨c1, m2⟩, htm.mono hs, fun z hz => (P.fr N (hlast z hz)).mono hs, fun z hz => ?_⟩, ?_, ?_⟩
  · show (o.ro, listOf ((o.rows.set k _).map fun r => Value.ref r.lr).toArray c3) ∈ news'
    rw [map_set_sameG (fun r : ORow => Value.ref r.lr) (r' := { r with things := restT }) hr rfl]; exact hs _ P.hro
  · have hz : z ∈ o.rows.set k _ := hz
    rw [hset] at hz
    rcases List.mem_append.mp hz with hz | hz
    · exact ORowIn.rest P N (hrows z (by rw [e]; simp [hz])) (hoth z (by simp [hz])) hs
    · rcases List.mem_cons.mp hz with rfl | hz
      · refine ⟨⟨c', m3⟩, fun y hy => ?_⟩
        refine gl fun G9 hG9 => ?_
        obtain ⟨⟨u1, u2, c, q1⟩, q2⟩ := (hrows r hrm).2 y (by rw [hth]; exact List.mem_cons_of_mem _ hy)
        refine hG9 ?_
        clear hG9 G9
        exact ⟨⟨u1, u2, c, hs _ (P.cls N q1)⟩, (P.fr N q2).mono hs⟩
      · exact ORowIn.rest P N (hrows z (by rw [e]; simp [hz])) (hoth z (by simp [hz])) hs
  · show (o.d :: o.wl :: o.la :: o.ro :: (o.rows.set k _).map fun r => r.lr) = _
    rw [map_set_sameG (fun r : ORow => r.lr) (r' := { r with things := restT }) hr rfl]; rfl
  · intro p hp hnot
    refine hs _ (restO_in hp fun hm => hnot ?_)
    simp only [mutO, List.mem_cons, List.not_mem_nil, or_false] at hm
    simp only [adrM, List.mem_cons]
    rcases hm with h | h | h
    · exact .inl h
    · exact .inr (.inl h)
    · exact .inr (.inr (.inr (List.mem_map.mpr ⟨r, hrm, h.symm⟩)))
section
variable {prog : Program} {w : World} {p : Program} {loose : List Str} {mean : ExcName → Option Value} {mg mb : Str → Option Value}
    {dp un : Nat} {gd : Option (List Code)} {cn : Str} {cs : Scope} {a : Addr} {ccd : Value} {cl : List (Str × Addr)} {outer : List Env} {A₀ : Around} {base h₀ : Heap} {L : Addr} {m : Str → Option Value} {s : Shared} {Q E : Value → Shared → Prop}
    {news : List (Addr × Obj)}
set_option maxHeartbeats 4000000 in
theorem ltaken_c {o : OwnS} {av : Value} {al : Option Int} {go : Nat → Bool} {G : Nat → Int} {U : Int}
    (B : Below A₀ base outer h₀) (F : Fr h₀ L s.heap m) (X : (hK w.params).In h₀) (T : Top p loose mean mg mb h₀) (hk : cs.kind = .function) (N : News h₀ L s.heap news) (ho : OwnIn prog w news o) (hnd : (adrO o).Nodup) (hlen : o.rows.length < 100) (htl : ∀ r ∈ o.rows, r.things.length < 1000) (hav : AllowV news av al)
    (hgo : ∀ j r, o.rows[j]? = some r → go j = (!r.things.isEmpty && match al with | none => true | some z => z == (j : Int))) (hU : 0 < U) (hF : ∀ j r x rest, o.rows[j]? = some r → r.things = x :: rest → Fq U (G j) x.num x.den)
    (st1 : Sm o.tn) (st2 : Sm o.td) (sx : ∀ r ∈ o.rows, ∀ x ∈ r.things, Sm x.num ∧ Sm x.den)
    (hdp : dp + 20 < recursionLimit) (hun : un + 200 < cLine)
    (retN : ∀ h' tk', (∀ j, j < o.rows.length → go j = false) → Fr h₀ L h' m → News h₀ L h' news → Q .none { s with heap := h', toks := tk' })
    (retS : ∀ o' (k : Nat) size thing T n u1 u2 u3 h' tk' news', k < o.rows.length → go k = true → (∀ j, j < o.rows.length → go j = true → G k < G j ∨ (G k = G j ∧ k ≤ j)) → LTakenQ o k size thing o' → OwnIn prog w news' o' → adrO o' = adrO o → (T, tupO [.int (k : Int) u1, .int size u2, .int thing u3] n) ∈ news' → (∀ p ∈ news, @Ne Nat p.1 T) →
      (∀ p ∈ news, p.1 ∉ adrM o → p ∈ news') → Fr h₀ L h' m → News h₀ L h' news' → Q (.ref T) { s with heap := h', toks := tk' }) :
    wpAny (model prog w) (ktrTop dp un gd cn cs L a ccd cl outer) (call (.ref 279) [.ref o.d, av]) Q E s := by
  have kf : (fun (_ : OpenLaw) (_ : Params → Frag) => True) PySem.Challenge.rw_pc0369_01 hK := by k_fill; trivial
  clear kf
  have hb9 : Base s := ⟨⟩
  have ho' := ho
  refine gl fun G9 hG9 => ?_
  obtain ⟨lo, ⟨ob, h1, hD⟩, ⟨c4, wv, h3, h4⟩, ⟨c3, h5⟩, ⟨c1, h6⟩, h7, h8, h9⟩ := ho'
  refine hG9 ?_
  clear hG9 G9
  refine wpAny_call ?_
  k_dflt (refine' code_def ?k1 ?k2 ?k3 ?k4 ?k5 ?kA ?kF ?kK ?k6 ?k7 ?k8 ?k9 ?kB ?_ ?c2 ?c3 ?c4 ?c5; (case kA => exact rfl); (case kF => exact rfl); (case kK => assumption); (case k1 => k_asm); (case k2 => k_asm); (case k3 => k_asm); (case k4 => k_asm); (case k5 => k_asm); (case k6 => k_is); (case k7 => k_is); (case k8 => k_room); (case k9 => first | exact BindsTo.of_eq rfl | exact binds_K (by k_in) rfl (by k_is) rfl rfl rfl); (case c5 => decide); (case kB => exact locs rfl); (case c2 => exact rfl); (case c3 => exact rfl); (case c4 => exact rfl); k_whole)
  intro g1 L1 h1 FG1 F1 N1 B1 X1 T1
  (try dsimp only); (try k_lift B1); (try k_fold)
  replace F1 := fr_open F1
  obtain ⟨m1, F1, em1⟩ := F1
  refine letMA ?_
  intro M9 A9
  k_steps
  refine Hold.mk ?_
  rename Fr _ _ _ _ => F2
  rename News _ _ _ _ => N2
  have hbf : ∀ b, b < o.rows.length → go b = true → ∃ r x rest, o.rows[b]? = some r ∧ r.things = x :: rest ∧ (∃ c, (r.lr, listOf (Value.ref x.a :: rest.map fun x => Value.ref x.a).toArray c) ∈ news) ∧ thIn news x ∧ Sm x.num ∧ Sm x.den ∧ Fq U (G b) x.num x.den := fun b hb hg => by
    have e1 : o.rows[b]? = some o.rows[b] := List.getElem?_eq_getElem hb
    have m1 : o.rows[b] ∈ o.rows := List.getElem_mem hb
    have e2 := hgo b _ e1
    rw [hg] at e2
    obtain ⟨⟨c, g1⟩, g2⟩ := h9 _ m1
    cases hth : o.rows[b].things with
    | nil => rw [hth] at e2; simp at e2
    | cons x rest =>
      rw [hth] at g1
      have sxx := sx _ m1 x (by rw [hth]; simp)
      exact ⟨_, x, rest, e1, hth, ⟨c, g1⟩, g2 x (by rw [hth]; simp), sxx.1, sxx.2, hF b _ x rest e1 hth⟩
  refine ktu_enum (by rfl) F2 N2 h5 rfl rfl rfl fun I hI => ?_
  refine items_enum (And.intro h5 trivial) (fun i m₁ => m₁ (Str.ofString "own") = some (.ref o.d) ∧ m₁ (Str.ofString "allowed") = some av ∧ ∃ bv, m₁ (Str.ofString "best") = some bv ∧ BestI go G i bv) ⟨(by first | walk_at "look" | exact rfl), (by first | walk_at "look" | exact rfl), _, (by first | walk_at "look" | exact rfl), .inl ⟨(by first | walk_at "look" | exact rfl), fun j hj => absurd hj (Nat.not_lt_zero _)⟩⟩ ?_ ?_
  · rintro m₁ h tk HH9 F3 N3
    refine gl fun G9 hG9 => ?_
    obtain ⟨e1, e2, bv, e3, hb⟩ := HH9
    refine hG9 ?_
    clear hG9 G9
    have F4 := F3
    clear F3 F2 N2
    simp only [List.length_map] at hb
    rcases hb with ⟨rfl, hb⟩ | ⟨b, tb, rfl, hb1, hb2, hb3⟩
    · k_steps
      exact retN _ _ hb (by k_asm) (by k_asm)
    · obtain ⟨rb, xb, restb, f1, f2, _, ⟨⟨ub1, ub2, ubc, f4⟩, f5⟩, f6, f7, f8⟩ := hbf b hb1 hb2
      clear hbf
      refine gl fun G9 hG9 => ?_
      obtain ⟨pre, post, e, hpl, hset⟩ := split_atG f1
      refine hG9 ?_
      clear hG9 G9
      refine gl fun G9 hG9 => ?_
      obtain ⟨⟨ob', c1, c2, c3, c4, wv, P⟩, hne, hoth⟩ := partsO_of ho hnd e
      refine hG9 ?_
      clear hG9 G9
      have N4 := P.back N3
      have hth' : (rb.things.map fun x => Value.ref x.a) = .ref xb.a :: restb.map fun x => Value.ref x.a := by rw [f2]; rfl
      rw [hth'] at N4
      have mro := P.hro
      have hD' : ob'.IsDictOf (strKind prog w) [("weights", .ref o.wl), ("rows", .ref o.ro), ("last", .ref o.la), ("time", .ref o.tm)] := P.hob
      have mx := P.cls N3 f4
      have mfr := P.fr N3 f5
      have mtm := P.fr N3 h7
      have e4 : ∀ p ∈ restO o rb news, p.1 ≠ o.d := fun p hp => (restO_ne p hp).1
      have e5 : ∀ p ∈ restO o rb news, p.1 ≠ o.la := fun p hp => (restO_ne p hp).2.1
      have e6 : ∀ p ∈ restO o rb news, p.1 ≠ rb.lr := fun p hp => (restO_ne p hp).2.2
      have hrb : (o.rows.map fun r => Value.ref r.lr)[((b : Int)).toNat]? = some (.ref rb.lr) := by simp [f1]
      have hb0 : (0 : Int) ≤ (b : Int) := by omega
      have hbl : (b : Int) < 2 ^ 63 := by omega
      have hrl : restb.length < 1000 := by have := htl rb (List.mem_of_getElem? f1); rw [f2] at this; simp only [List.length_cons] at this; omega
      obtain ⟨q1, q2, q3⟩ := hne
      have P' := P
      clear P N3 hD h1 h3 h5 h6
      generalize hrest : restO o rb news = rest at N4 mro mx mfr mtm e4 e5 e6
      k_steps
      refine Hold.mk ?_
      k_dflt (refine' greater_r (rest := rest) (n1 := o.tn) (d1 := o.td) (n2 := xb.num) (d2 := xb.den) ?k1 ?k2 ?k3 ?k4 ?k5 ?N ?g ?x ?y ?a ?b ?c ?d ?e ?f ?_; (case k1 => k_asm); (case k2 => k_asm); (case k3 => k_asm); (case k4 => k_asm); (case k5 => first | exact rfl | assumption); (case N => k_asm); (case g => intro p hp; simp only [List.mem_cons, hp, or_true]); (case x => exact mtm); (case y => exact mfr); (case a => exact st1); (case b => exact st2); (case c => exact f6); (case d => exact f7); (case e => k_room); (case f => k_units))
      intro z zn zd h12 tk12 hg hzz F12 N12
      (try dsimp only at N12 ⊢)
      (try k_fold)
      k_steps
      refine Hold.mk ?_
      refine' own_set_time ?F ?N ?U ?d ?_
      case F => k_asm
      case N => k_asm
      case d => exact hD'
      case U => k_updF
      intro h11 ob11 tk11 F11 N11 D11
      (try dsimp only at N11 ⊢)
      (try k_sweep)
      (try k_fold)
      k_steps
      rename News h₀ L _ _ => NZ
      have tn4 : ∀ {a b c d : Nat} {l : List (Addr × Obj)}, (a < d ∧ b < d ∧ c < d ∧ AllLt d l) → (a < d ∧ b < d ∧ c < d ∧ AllLt d l) := fun h => h
      have lT := tn4 (by assumption)
      obtain ⟨z1, z2, z3⟩ := ltaken_fin (news' := _ :: (o.d, ob11) :: (o.la, W.listOf (List.map (fun r => Value.ref r.fst) o.last).toArray c1) :: (rb.lr, W.listOf (List.map (fun x => Value.ref x.a) restb).toArray (c2 + 1)) :: rest) P' N ho f1 e hset hoth f2 (List.mem_cons_of_mem _ (List.mem_cons_self ..)) D11 (List.mem_cons_of_mem _ (List.mem_cons_of_mem _ (List.mem_cons_self ..))) (List.mem_cons_of_mem _ (List.mem_cons_of_mem _ (List.mem_cons_of_mem _ (List.mem_cons_self ..)))) (hrest ▸ hzz) (fun p hp => List.mem_cons_of_mem _ (List.mem_cons_of_mem _ (List.mem_cons_of_mem _ (List.mem_cons_of_mem _ (hrest ▸ hp)))))
      refine retS _ b xb.size xb.thing _ _ tb ub1 ub2 _ _ _ (by simpa using hb1) hb2 (fun j hj => hb3 j (by simpa using hj)) ⟨rb, xb, restb, z, zn, zd, f1, f2, rfl, rfl, hg, rfl⟩ z1 z2 (List.mem_cons_self ..) (fun p hp => ?_) z3 (by k_asm) NZ
      have hp' := P'.sub N p hp
      rw [hrest] at hp'
      simp only [List.mem_cons] at hp'
      rcases hp' with rfl | rfl | rfl | hp'
      · exact Nat.ne_of_lt lT.1
      · exact Nat.ne_of_lt lT.2.1
      · exact Nat.ne_of_lt lT.2.2.1
      · exact Nat.ne_of_lt (allLt_mem lT.2.2.2 p hp')
  · rintro i x m₁ T9 t h tk hx HH9 hT F3
    refine gl fun G9 hG9 => ?_
    obtain ⟨e1, e2, bv, e3, hb⟩ := HH9
    refine hG9 ?_
    clear hG9 G9
    refine AllObj.cons fun o1 hc1 => AllObj.cons fun o2 hc2 => AllObj.nil fun N3 => ?_
    simp only [List.cons_append, List.nil_append] at N3
    dsimp only at hc1 hc2
    have hi' : i < o.rows.length := by have := (List.getElem?_eq_some_iff.mp hx).1; simpa using this
    have hri : o.rows[i]? = some o.rows[i] := List.getElem?_eq_getElem hi'
    have hrm : o.rows[i] ∈ o.rows := List.getElem_mem hi'
    obtain rfl : x = .ref (o.rows[i]).lr := by simpa [hi'] using hx.symm
    generalize o.rows[i] = r at *
    obtain ⟨⟨c2, g1⟩, g2⟩ := h9 r hrm
    have hgi := hgo i r hri
    have F4 := F3
    clear F3 F2 N2
    cases hth : r.things with
    | nil =>
      rw [hth] at g1 hgi
      k_steps
      exact unr_end (by k_asm) (by assumption) hI (fun p hp => List.mem_cons_of_mem _ hp) ⟨(by first | walk_at "look" | exact rfl), (by first | walk_at "look" | exact rfl), (by first | walk_at "look" | exact rfl), _, (by first | walk_at "look" | exact rfl), hb.skip (by rw [hgi]; rfl)⟩
    | cons x9 rest9 =>
      rw [hth] at g1 hgi
      refine gl fun G9 hG9 => ?_
      obtain ⟨⟨ux1, ux2, uxc, g3⟩, g4⟩ := g2 x9 (by rw [hth]; simp)
      refine hG9 ?_
      clear hG9 G9
      obtain ⟨sx1, sx2⟩ := sx r hrm x9 (by rw [hth]; simp)
      have hF9 := hF i r x9 rest9 hri hth
      simp only [List.map_cons] at g1
      generalize htv : (Value.ref x9.a :: List.map (fun x => Value.ref x.a) rest9) = tv at g1
      have hte : tv.isEmpty = false := by rw [← htv]; rfl
      have htv0 : tv[((0 : Int)).toNat]? = some (.ref x9.a) := by rw [← htv]; rfl
      rcases hav with ⟨rfl, rfl⟩ | ⟨aa, z, ca, ua, rfl, rfl, haa⟩
      · replace hgi : go i = true := hgi
        rcases hb with ⟨rfl, hb⟩ | ⟨b, tb, rfl, hb1, hb2, hb3⟩
        · k_steps
          exact unr_end (by k_asm) (by assumption) hI (fun p hp => List.mem_cons_of_mem _ hp) ⟨(by first | walk_at "look" | exact rfl), (by first | walk_at "look" | exact rfl), (by first | walk_at "look" | exact rfl), _, (by first | walk_at "look" | exact rfl), .first hb hgi⟩
        · obtain ⟨rb, xb, restb, f1, f2, ⟨cb, f3⟩, ⟨⟨ub1, ub2, ubc, f4⟩, f5⟩, f6, f7, f8⟩ := hbf b (by omega) hb2
          generalize htb : (Value.ref xb.a :: List.map (fun x => Value.ref x.a) restb) = tvb at f3
          have htb0 : tvb[((0 : Int)).toNat]? = some (.ref xb.a) := by rw [← htb]; rfl
          have hrb : (o.rows.map fun r => Value.ref r.lr)[((b : Int)).toNat]? = some (.ref rb.lr) := by simp [f1]
          have hb0 : (0 : Int) ≤ (b : Int) := by omega
          have hbl : (b : Int) < 2 ^ 63 := by omega
          k_steps
          refine Hold.mk ?_
          k_dflt (refine' less_c (n1 := x9.num) (d1 := x9.den) (n2 := xb.num) (d2 := xb.den) ?k1 ?k2 ?k3 ?k4 ?k5 ?N ?x ?y ?a ?b ?c ?d ?e ?f ?_; (case k1 => k_asm); (case k2 => k_asm); (case k3 => k_asm); (case k4 => k_asm); (case k5 => first | exact rfl | assumption); (case N => k_asm); (case x => exact g4.mono fun p hp => by simp only [List.mem_cons, hp, or_true]); (case y => exact f5.mono fun p hp => by simp only [List.mem_cons, hp, or_true]); (case a => exact sx1); (case b => exact sx2); (case c => exact f6); (case d => exact f7); (case e => k_room); (case f => k_units))
          intro h17 tk17 F17 N17
          (try dsimp only at N17 ⊢)
          (try k_fold)
          by_cases hl : x9.num * xb.den < xb.num * x9.den
          · have hd : decide (x9.num * xb.den < xb.num * x9.den) = true := decide_eq_true hl
            k_steps
            exact unr_end (by k_asm) (by assumption) hI (fun p hp => List.mem_cons_of_mem _ hp) ⟨(by first | walk_at "look" | exact rfl), (by first | walk_at "look" | exact rfl), (by first | walk_at "look" | exact rfl), _, (by first | walk_at "look" | exact rfl), .less hb3 hgi ((Fq.lt hU hF9 f8).mp hl)⟩
          · have hd : decide (x9.num * xb.den < xb.num * x9.den) = false := decide_eq_false hl
            k_steps
            exact unr_end (by k_asm) (by assumption) hI (fun p hp => List.mem_cons_of_mem _ hp) ⟨(by first | walk_at "look" | exact rfl), (by first | walk_at "look" | exact rfl), (by first | walk_at "look" | exact rfl), _, (by first | walk_at "look" | exact rfl), .stay hb1 hb2 hb3 (fun h => hl ((Fq.lt hU hF9 f8).mpr h))⟩
      · have hgi' : go i = (z == (i : Int)) := hgi
        clear hgi
        cases hz : (z == (i : Int)) with
        | false =>
          rw [hz] at hgi'
          k_steps
          refine my_in (by k_asm) (by k_mem) ?_
          k_steps
          exact unr_end (by k_asm) (by assumption) hI (fun p hp => List.mem_cons_of_mem _ hp) ⟨(by first | walk_at "look" | exact rfl), (by first | walk_at "look" | exact rfl), (by first | walk_at "look" | exact rfl), _, (by first | walk_at "look" | exact rfl), hb.skip hgi'⟩
        | true =>
          have hgi : go i = true := by rw [hgi', hz]
          rcases hb with ⟨rfl, hb⟩ | ⟨b, tb, rfl, hb1, hb2, hb3⟩
          · k_steps
            refine my_in (by k_asm) (by k_mem) ?_
            k_steps
            exact unr_end (by k_asm) (by assumption) hI (fun p hp => List.mem_cons_of_mem _ hp) ⟨(by first | walk_at "look" | exact rfl), (by first | walk_at "look" | exact rfl), (by first | walk_at "look" | exact rfl), _, (by first | walk_at "look" | exact rfl), .first hb hgi⟩
          · obtain ⟨rb, xb, restb, f1, f2, ⟨cb, f3⟩, ⟨⟨ub1, ub2, ubc, f4⟩, f5⟩, f6, f7, f8⟩ := hbf b (by omega) hb2
            generalize htb : (Value.ref xb.a :: List.map (fun x => Value.ref x.a) restb) = tvb at f3
            have htb0 : tvb[((0 : Int)).toNat]? = some (.ref xb.a) := by rw [← htb]; rfl
            have hrb : (o.rows.map fun r => Value.ref r.lr)[((b : Int)).toNat]? = some (.ref rb.lr) := by simp [f1]
            have hb0 : (0 : Int) ≤ (b : Int) := by omega
            have hbl : (b : Int) < 2 ^ 63 := by omega
            k_steps
            refine my_in (by k_asm) (by k_mem) ?_
            k_steps
            refine Hold.mk ?_
            k_dflt (refine' less_c (n1 := x9.num) (d1 := x9.den) (n2 := xb.num) (d2 := xb.den) ?k1 ?k2 ?k3 ?k4 ?k5 ?N ?x ?y ?a ?b ?c ?d ?e ?f ?_; (case k1 => k_asm); (case k2 => k_asm); (case k3 => k_asm); (case k4 => k_asm); (case k5 => first | exact rfl | assumption); (case N => k_asm); (case x => exact g4.mono fun p hp => by simp only [List.mem_cons, hp, or_true]); (case y => exact f5.mono fun p hp => by simp only [List.mem_cons, hp, or_true]); (case a => exact sx1); (case b => exact sx2); (case c => exact f6); (case d => exact f7); (case e => k_room); (case f => k_units))
            intro h17 tk17 F17 N17
            (try dsimp only at N17 ⊢)
            (try k_fold)
            by_cases hl : x9.num * xb.den < xb.num * x9.den
            · have hd : decide (x9.num * xb.den < xb.num * x9.den) = true := decide_eq_true hl
              k_steps
              exact unr_end (by k_asm) (by assumption) hI (fun p hp => List.mem_cons_of_mem _ hp) ⟨(by first | walk_at "look" | exact rfl), (by first | walk_at "look" | exact rfl), (by first | walk_at "look" | exact rfl), _, (by first | walk_at "look" | exact rfl), .less hb3 hgi ((Fq.lt hU hF9 f8).mp hl)⟩
            · have hd : decide (x9.num * xb.den < xb.num * x9.den) = false := decide_eq_false hl
              k_steps
              exact unr_end (by k_asm) (by assumption) hI (fun p hp => List.mem_cons_of_mem _ hp) ⟨(by first | walk_at "look" | exact rfl), (by first | walk_at "look" | exact rfl), (by first | walk_at "look" | exact rfl), _, (by first | walk_at "look" | exact rfl), .stay hb1 hb2 hb3 (fun h => hl ((Fq.lt hU hF9 f8).mpr h))⟩
end

theorem ln25 : True := by
  k_with "off46" => skip
  trivial
end Part17
section Part18
noncomputable def Bd (c : Nat) (n : Int) : Prop := Builtin.Int.intBits n ≤ 10 * (c + 1)
theorem Bd.mono {c c' : Nat} {n : Int} (h : Bd c n) (hc : c ≤ c') : Bd c' n := Nat.le_trans h (by omega)
theorem Bd.sm {c : Nat} {n : Int} (h : Bd c n) (hc : c ≤ 1000) : Sm n := Nat.le_trans h (by omega)
inductive RT (U : Int) (c : Nat) : List (Addr × Int × Int) → List Int → List OThing → Prop
  | nil : RT U c [] [] []
  | cons {D : Addr} {size thing f : Int} {t : OThing} {as : List (Addr × Int × Int)} {fs : List Int} {ts : List OThing} (h1 : Fq U f t.num t.den) (h2 : Bd c t.num) (h3 : Bd c t.den) (h4 : t.size = size) (h5 : t.thing = thing) (r : RT U c as fs ts) : RT U c ((D, size, thing) :: as) (f :: fs) (t :: ts)
theorem RT.mono {U : Int} {c c' : Nat} {as fs ts} (h : RT U c as fs ts) (hc : c ≤ c') : RT U c' as fs ts := by
  induction h with
  | nil => exact .nil
  | cons h1 h2 h3 h4 h5 r ih => exact .cons h1 (h2.mono hc) (h3.mono hc) h4 h5 ih
theorem RT.snoc {U : Int} {c : Nat} {as fs ts} (h : RT U c as fs ts) {D : Addr} {f : Int} {t : OThing} (h1 : Fq U f t.num t.den) (h2 : Bd c t.num) (h3 : Bd c t.den) : RT U c (as ++ [(D, t.size, t.thing)]) (fs ++ [f]) (ts ++ [t]) := by
  induction h with
  | nil => exact .cons h1 h2 h3 rfl rfl .nil
  | cons h1 h2 h3 h4 h5 r ih => exact .cons h1 h2 h3 h4 h5 ih
theorem RT.len1 {U : Int} {c : Nat} {as fs ts} (h : RT U c as fs ts) : fs.length = as.length := by
  induction h with
  | nil => rfl
  | cons h1 h2 h3 h4 h5 r ih => simp [ih]
theorem RT.len2 {U : Int} {c : Nat} {as fs ts} (h : RT U c as fs ts) : ts.length = as.length := by
  induction h with
  | nil => rfl
  | cons h1 h2 h3 h4 h5 r ih => simp [ih]
theorem RT.bits {U : Int} {c : Nat} {as fs ts} (h : RT U c as fs ts) : ∀ t ∈ ts, Bd c t.num ∧ Bd c t.den := by
  induction h with
  | nil => exact fun _ h => nomatch h
  | cons h1 h2 h3 h4 h5 r ih =>
    intro t ht
    rcases List.mem_cons.mp ht with rfl | ht
    · exact ⟨h2, h3⟩
    · exact ih t ht
theorem RT.isE {U : Int} {c : Nat} {as fs ts} (h : RT U c as fs ts) : as.isEmpty = ts.isEmpty := by cases h <;> rfl
theorem RT.hd {U : Int} {c : Nat} {as fs ts} (h : RT U c as fs ts) : ∀ t rest, ts = t :: rest → ∃ D as' f fs', as = (D, t.size, t.thing) :: as' ∧ fs = f :: fs' ∧ Fq U f t.num t.den ∧ Bd c t.num ∧ Bd c t.den ∧ RT U c as' fs' rest := by
  cases h with
  | nil => exact fun _ _ h => nomatch h
  | cons h1 h2 h3 h4 h5 r =>
    intro t rest e
    obtain ⟨rfl, rfl⟩ := List.cons.inj e
    subst h4 h5
    exact ⟨_, _, _, _, rfl, rfl, h1, h2, h3, r⟩
structure RowSim (U : Int) (c : Nat) (r : Row) (x : ORow) : Prop where
  most : r.most = 99
  moct : r.moct = 9999
  octs : r.octs ≤ 64 * c
  len : r.things.length ≤ c
  nn : ∀ t ∈ r.things, 0 ≤ t.2.1
  rt : RT U c r.things r.fins x.things
structure Sim (ws : List Int) (c : Nat) (q : WFq) (o : OwnS) : Prop where
  U0 : 0 < q.unit
  steps : q.steps = ws.map (fun z => q.unit.fdiv z)
  dv : ∀ x ∈ ws, (1 ≤ x ∧ x ≤ 7) ∧ ∃ y, q.unit = y * x
  w : o.weights = ws
  l1 : q.rows.length = ws.length
  l2 : q.last.length = ws.length
  l3 : o.rows.length = ws.length
  l4 : o.last.length = ws.length
  last : ∀ (k : Nat) (f : Int) (x : Addr × Int × Int), q.last[k]? = some f → o.last[k]? = some x → Fq q.unit f x.2.1 x.2.2
  lastB : ∀ x : Addr × Int × Int, x ∈ o.last → Bd c x.2.1 ∧ Bd c x.2.2
  time : Fq q.unit q.time o.tn o.td
  timeB : Bd c o.tn ∧ Bd c o.td
  rows : ∀ (k : Nat) (r : Row) (x : ORow), q.rows[k]? = some r → o.rows[k]? = some x → RowSim q.unit c r x
theorem wait_zero {rows : List Row} : (rows.map fun r => (r.things.length : Int)).sum = 0 ↔ ∀ r ∈ rows, r.things = [] := by
  induction rows with
  | nil => simp
  | cons r rs ih =>
    have h0 : ∀ l : List Row, 0 ≤ (l.map fun r => (r.things.length : Int)).sum := by
      intro l; induction l with
      | nil => simp
      | cons a b ih => simp only [List.map_cons, List.sum_cons]; omega
    have h1 := h0 rs
    simp only [List.map_cons, List.sum_cons, List.mem_cons, forall_eq_or_imp, ← ih]
    constructor
    · intro h
      refine ⟨List.length_eq_zero_iff.mp (by omega), by omega⟩
    · rintro ⟨h, h2⟩; rw [h, h2]; rfl
theorem Sim.pair {ws : List Int} {c : Nat} {q : WFq} {o : OwnS} (S : Sim ws c q o) {k : Nat} (hk : k < ws.length) : ∃ r x, q.rows[k]? = some r ∧ o.rows[k]? = some x ∧ RowSim q.unit c r x := by
  have h1 : k < q.rows.length := by rw [S.l1]; exact hk
  have h2 : k < o.rows.length := by rw [S.l3]; exact hk
  exact ⟨_, _, List.getElem?_eq_getElem h1, List.getElem?_eq_getElem h2, S.rows _ _ _ (List.getElem?_eq_getElem h1) (List.getElem?_eq_getElem h2)⟩
theorem RowSim.empty {U : Int} {c : Nat} {r : Row} {x : ORow} (h : RowSim U c r x) : r.things.isEmpty = x.things.isEmpty := h.rt.isE
theorem Sim.wait {ws : List Int} {c : Nat} {q : WFq} {o : OwnS} (S : Sim ws c q o) : waitQ q = 0 ↔ allE o = true := by
  unfold waitQ allE
  rw [wait_zero, List.all_eq_true]
  constructor
  · intro h x hx
    obtain ⟨k, hk, rfl⟩ := List.getElem_of_mem hx
    refine gl fun G9 hG9 => ?_
    obtain ⟨r, x', e1, e2, hs⟩ := S.pair (k := k) (by rw [← S.l3]; exact hk)
    refine hG9 ?_
    clear hG9 G9
    rw [List.getElem?_eq_getElem hk] at e2
    obtain rfl := Option.some.inj e2
    rw [← hs.empty, h r (List.mem_of_getElem? e1)]; rfl
  · intro h r hr
    obtain ⟨k, hk, rfl⟩ := List.getElem_of_mem hr
    refine gl fun G9 hG9 => ?_
    obtain ⟨r', x, e1, e2, hs⟩ := S.pair (k := k) (by rw [← S.l1]; exact hk)
    refine hG9 ?_
    clear hG9 G9
    rw [List.getElem?_eq_getElem hk] at e1
    obtain rfl := Option.some.inj e1
    have := h x (List.mem_of_getElem? e2)
    rw [← hs.empty] at this
    exact List.isEmpty_iff.mp this
theorem step_mul {U x : Int} (hx : 1 ≤ x) (h : ∃ y, U = y * x) : U.fdiv x * x = U := by
  obtain ⟨y, rfl⟩ := h
  rw [Int.fdiv_eq_ediv_of_nonneg _ (by omega), Int.mul_ediv_cancel _ (by omega)]
theorem fq_zero (U : Int) : Fq U 0 0 1 := ⟨by decide, by simp⟩
theorem bd0 (c : Nat) : Bd c 0 := by
  have : Builtin.Int.intBits 0 = 0 := by decide
  unfold Bd; omega
theorem bd1 (c : Nat) : Bd c 1 := by
  have : Builtin.Int.intBits 1 = 1 := by decide
  unfold Bd; omega
theorem grt_bd {n1 d1 n2 d2 n d : Int} {c : Nat} (h : Grt n1 d1 n2 d2 n d) (h1 : Bd c n1) (h2 : Bd c d1) (h3 : Bd c n2) (h4 : Bd c d2) : Bd c n ∧ Bd c d := by
  rcases h with ⟨_, rfl, rfl⟩ | ⟨_, rfl, rfl⟩
  · exact ⟨h3, h4⟩
  · exact ⟨h1, h2⟩
theorem bits_small {a : Int} {m : Nat} (h : a.natAbs < 2 ^ m) : Builtin.Int.intBits a ≤ m := intBits_le_iff.mpr h
theorem put_bd {bn bd w size : Int} {c : Nat} (h1 : Bd c bn) (h2 : Bd c bd) (hw : 1 ≤ w ∧ w ≤ 7) (hs : 0 ≤ size ∧ size ≤ 64) : Bd (c + 1) (bn * w + size * bd) ∧ Bd (c + 1) (bd * w) := by
  have b1 : Builtin.Int.intBits w ≤ 3 := bits_small (by have : w.natAbs < 8 := by omega
                                                        exact this)
  have b2 : Builtin.Int.intBits size ≤ 7 := bits_small (by have : size.natAbs < 128 := by omega
                                                           exact this)
  have a1 := intBits_mul_le h1 b1
  have a2 := intBits_mul_le b2 h2
  have a3 := intBits_add_le a1 a2
  have a4 := intBits_mul_le h2 b1
  unfold Bd
  constructor
  · refine Nat.le_trans a3 ?_
    omega
  · refine Nat.le_trans a4 ?_
    omega
theorem getElem?_set_cases {α : Type} {l : List α} {k j : Nat} {a b : α} (h : (l.set k a)[j]? = some b) : (j = k ∧ b = a) ∨ (j ≠ k ∧ l[j]? = some b) := by
  by_cases e : k = j
  · subst e
    rw [List.getElem?_set_self'] at h
    cases hl : l[k]? with
    | none => rw [hl] at h; cases h
    | some x => rw [hl] at h; exact .inl ⟨rfl, (Option.some.inj h).symm⟩
  · rw [List.getElem?_set_ne e] at h
    exact .inr ⟨fun x => e x.symm, h⟩
theorem sim_put {ws : List Int} {c k : Nat} {q q' : WFq} {o o' : OwnS} {size thing : Int} (S : Sim ws c q o) (hs : 0 ≤ size ∧ size ≤ 64) (h1 : PutQ q k size thing q') (h2 : LPutQ o k size thing o') : Sim ws (c + 1) q' o' := by
  obtain ⟨r, la, D, last0, time0, hr, hc1, rfl⟩ := h1
  obtain ⟨x, la', tm', Ta, Fa, ax, lst0, tn0, td0, ln, ld, bn, bd, hx, hc2, hlx, hg, rfl⟩ := h2
  have R := S.rows k r x hr hx
  have hk : k < ws.length := by rw [← S.l1]; exact (List.getElem?_eq_some_iff.mp hr).1
  have hkw : ws[k]? = some ws[k] := List.getElem?_eq_getElem hk
  have dw := S.dv ws[k] (List.getElem_mem hk)
  have ew : o.weights.getD k 0 = ws[k] := by rw [S.w]; simp [hk]
  have es : q.steps.getD k 0 = q.unit.fdiv ws[k] := by rw [S.steps]; simp [hk]
  have base : last0.length = ws.length ∧ lst0.length = ws.length ∧ (∀ (k : Nat) (f : Int) (x : Addr × Int × Int), last0[k]? = some f → lst0[k]? = some x → Fq q.unit f x.2.1 x.2.2) ∧ (∀ x : Addr × Int × Int, x ∈ lst0 → Bd c x.2.1 ∧ Bd c x.2.2) ∧ Fq q.unit time0 tn0 td0 ∧ Bd c tn0 ∧ Bd c td0 := by
    rcases hc1 with ⟨a1, rfl, rfl⟩ | ⟨a1, rfl, rfl⟩ <;> rcases hc2 with ⟨b1, ⟨y, rfl⟩, rfl, rfl⟩ | ⟨b1, rfl, rfl, rfl⟩
    · refine ⟨by simp [S.l2], by simp [S.l3], fun k f z hf hz => ?_, fun z hz => ?_, fq_zero _, bd0 _, bd1 _⟩
      · obtain rfl := (List.mem_replicate.mp (List.mem_of_getElem? hf)).2
        obtain rfl := (List.mem_replicate.mp (List.mem_of_getElem? hz)).2
        exact fq_zero _
      · obtain rfl := (List.mem_replicate.mp hz).2
        exact ⟨bd0 _, bd1 _⟩
    · rw [S.wait.mp a1] at b1; cases b1
    · exact absurd (S.wait.mpr b1) a1
    · exact ⟨S.l2, S.l4, S.last, S.lastB, S.time, S.timeB.1, S.timeB.2⟩
  refine gl fun G9 hG9 => ?_
  obtain ⟨B1, B2, B3, B4, B5, B6, B7⟩ := base
  refine hG9 ?_
  clear hG9 G9
  obtain ⟨lf, hlf⟩ : ∃ lf, last0[k]? = some lf := ⟨_, List.getElem?_eq_getElem (by omega)⟩
  have elf : last0.getD k 0 = lf := by simp [hlf]
  have hF0 := Fq.grt S.U0 (B3 k lf _ hlf hlx) B5 hg
  obtain ⟨b1, b2⟩ := B4 _ (List.mem_of_getElem? hlx)
  obtain ⟨b3, b4⟩ := grt_bd hg b1 b2 B6 B7
  obtain ⟨b5, b6⟩ := put_bd b3 b4 dw.1 hs
  have hF : Fq q.unit (putF last0 time0 q.steps k size) (bn * o.weights.getD k 0 + size * bd) (bd * o.weights.getD k 0) := by
    unfold putF
    rw [elf, ew, es]
    exact Fq.put hF0 (by omega) (step_mul dw.1.1 dw.2)
  rw [ew] at hF ⊢
  generalize putF last0 time0 q.steps k size = FF at hF ⊢
  refine ⟨S.U0, S.steps, S.dv, S.w, by simp [S.l1], by simp [B1], by simp [S.l3], by simp [B2], ?_, ?_, B5, ⟨B6.mono (by omega), B7.mono (by omega)⟩, ?_⟩
  · intro j f z hf hz
    rcases getElem?_set_cases hf with ⟨rfl, rfl⟩ | ⟨e, hf⟩ <;> rcases getElem?_set_cases hz with ⟨e', rfl⟩ | ⟨e', hz⟩
    · exact hF
    · exact absurd rfl e'
    · exact absurd e' e
    · exact B3 j f z hf hz
  · intro z hz
    rcases List.mem_or_eq_of_mem_set hz with hz | rfl
    · exact ⟨(B4 z hz).1.mono (by omega), (B4 z hz).2.mono (by omega)⟩
    · exact ⟨b5, b6⟩
  · intro j r' z hr' hz
    rcases getElem?_set_cases hr' with ⟨rfl, rfl⟩ | ⟨e, hr'⟩ <;> rcases getElem?_set_cases hz with ⟨e', rfl⟩ | ⟨e', hz⟩
    · refine ⟨R.most, R.moct, ?_, ?_, ?_, (R.rt.mono (by omega)).snoc (t := ⟨Ta, Fa, _, _, size, thing⟩) hF b5 b6⟩
      · have := R.octs; show r.octs + size ≤ 64 * ((c + 1 : Nat) : Int); omega
      · have := R.len; simp; omega
      · intro t ht
        rcases List.mem_append.mp ht with ht | ht
        · exact R.nn t ht
        · obtain rfl := List.mem_singleton.mp ht; exact hs.1
    · exact absurd rfl e'
    · exact absurd e' e
    · have R' := S.rows j r' z hr' hz
      exact ⟨R'.most, R'.moct, by have := R'.octs; omega, by have := R'.len; omega, R'.nn, R'.rt.mono (by omega)⟩
theorem Best.uniq {q : WFq} {al : Option Int} {j k : Nat} (h1 : Best q al j) (h2 : Best q al k) : j = k := by
  have a := h1.2 k h2.1
  have b := h2.2 j h1.1
  omega
theorem Sim.go {ws : List Int} {c : Nat} {q : WFq} {o : OwnS} (S : Sim ws c q o) (al : Option Int) : ∀ j r, o.rows[j]? = some r → goQ q al j = (!r.things.isEmpty && match al with | none => true | some z => z == (j : Int)) := by
  intro j x hx
  have hj : j < ws.length := by rw [← S.l3]; exact (List.getElem?_eq_some_iff.mp hx).1
  refine gl fun G9 hG9 => ?_
  obtain ⟨r, x', e1, e2, R⟩ := S.pair hj
  refine hG9 ?_
  clear hG9 G9
  rw [hx] at e2
  obtain rfl := Option.some.inj e2
  simp only [goQ, e1, goB, R.empty]
  all_goals (cases al <;> rfl)
theorem Sim.head {ws : List Int} {c : Nat} {q : WFq} {o : OwnS} (S : Sim ws c q o) : ∀ j r x rest, o.rows[j]? = some r → r.things = x :: rest → Fq q.unit (headF q j) x.num x.den := by
  intro j y x rest hx ht
  have hj : j < ws.length := by rw [← S.l3]; exact (List.getElem?_eq_some_iff.mp hx).1
  refine gl fun G9 hG9 => ?_
  obtain ⟨r, x', e1, e2, R⟩ := S.pair hj
  refine hG9 ?_
  clear hG9 G9
  rw [hx] at e2
  obtain rfl := Option.some.inj e2
  simp only [headF, e1]
  refine gl fun G9 hG9 => ?_
  obtain ⟨_, _, _, _, _, e3, h1, _⟩ := R.rt.hd x rest ht
  refine hG9 ?_
  clear hG9 G9
  rw [e3]; exact h1
theorem Sim.best {ws : List Int} {c : Nat} {q : WFq} {o : OwnS} (S : Sim ws c q o) {al : Option Int} {k : Nat} (h1 : k < o.rows.length) (h2 : goQ q al k = true) (h3 : ∀ j, j < o.rows.length → goQ q al j = true → headF q k < headF q j ∨ (headF q k = headF q j ∧ k ≤ j)) : Best q al k := by
  have e : o.rows.length = q.rows.length := by rw [S.l1, S.l3]
  refine ⟨List.mem_filter.mpr ⟨List.mem_range.mpr (by omega), h2⟩, fun j hj => ?_⟩
  obtain ⟨a, b⟩ := List.mem_filter.mp hj
  exact h3 j (by rw [e]; exact List.mem_range.mp a) b
theorem Sim.none {ws : List Int} {c : Nat} {q : WFq} {o : OwnS} (S : Sim ws c q o) {al : Option Int} : cands q al = [] ↔ ∀ j, j < o.rows.length → goQ q al j = false := by
  have e : o.rows.length = q.rows.length := by rw [S.l1, S.l3]
  unfold cands
  rw [List.filter_eq_nil_iff, e]
  constructor
  · intro h j hj
    have := h j (List.mem_range.mpr hj)
    simpa using this
  · intro h j hj
    rw [h j (List.mem_range.mp hj)]; simp
theorem sim_take {ws : List Int} {c k : Nat} {q q' : WFq} {o o' : OwnS} {size thing size' thing' : Int} (S : Sim ws c q o) (h1 : TakeQ q k size thing q') (h2 : LTakenQ o k size' thing' o') : size' = size ∧ thing' = thing ∧ Sim ws c q' o' := by
  obtain ⟨r, D, restT, f, restF, hr, ht, hf, rfl⟩ := h1
  obtain ⟨x, y, rest, tm', tn', td', hx, hy, rfl, rfl, hg, rfl⟩ := h2
  have R := S.rows k r x hr hx
  refine gl fun G9 hG9 => ?_
  obtain ⟨D', as', f', fs', g1, g2, a1, a2, a3, a6⟩ := R.rt.hd y rest hy
  refine hG9 ?_
  clear hG9 G9
  rw [ht] at g1
  rw [hf] at g2
  obtain ⟨g3, rfl⟩ := List.cons.inj g1
  obtain ⟨rfl, rfl⟩ := List.cons.inj g2
  obtain ⟨_, g4⟩ := Prod.mk.inj g3
  obtain ⟨rfl, rfl⟩ := Prod.mk.inj g4
  · obtain ⟨b1, b2⟩ := grt_bd hg S.timeB.1 S.timeB.2 a2 a3
    refine ⟨rfl, rfl, ⟨S.U0, S.steps, S.dv, S.w, by simp [S.l1], S.l2, by simp [S.l3], S.l4, S.last, S.lastB, Fq.grt S.U0 S.time a1 hg, ⟨b1, b2⟩, ?_⟩⟩
    intro j r' z hr' hz
    rcases getElem?_set_cases hr' with ⟨rfl, rfl⟩ | ⟨e, hr'⟩ <;> rcases getElem?_set_cases hz with ⟨e', rfl⟩ | ⟨e', hz⟩
    · have n1 : 0 ≤ y.size := R.nn (D, y.size, y.thing) (by rw [ht]; simp)
      refine ⟨R.most, R.moct, ?_, ?_, ?_, a6⟩
      · have := R.octs; show r.octs - y.size ≤ 64 * (c : Int); omega
      · have := R.len; rw [ht] at this; simp only [List.length_cons] at this; show restT.length ≤ c; omega
      · exact fun t htt => R.nn t (by rw [ht]; exact List.mem_cons_of_mem _ htt)
    · exact absurd rfl e'
    · exact absurd e' e
    · exact S.rows j r' z hr' hz
end Part18
section Part19
section
variable {prog : Program} {w : World} {A : Around} {E : Value → Shared → Prop} {s : Shared} {env : Env} {h₀ : Heap} {x : Str} {body : List Stmt} {Q : Flow → Shared → Prop}
/-- a loop over a range, its ledger a variable -/
theorem my_range {r : Addr} {a b c : Int} {t₀ u₀ v₀ : Tok} {n : Nat} {m₀ : Str → Option Value} {news : List (Addr × Obj)} (J : Nat → (Str → Option Value) → List (Addr × Obj) → Prop)
    (hh : A.handled = none) (hr : IsRange s.heap r a b c t₀ u₀ v₀) (hsmall : Builtin.Range.small a b c = true) (hsz : Builtin.Range.rangeSize a b c = (n : Int)) (F : Fr h₀ env.locals s.heap m₀) (N : News h₀ env.locals s.heap news) (hj : J 0 m₀ news)
    (turn : ∀ i t m₁ nx h tk I oI, i < n → oI.cls = .type "range_iterator" → (∀ p ∈ nx, @Ne Nat p.1 I) → J i m₁ nx → Fr h₀ env.locals h (fun y => if y = x then some (.int (a + (i : Int) * c) t) else m₁ y) → News h₀ env.locals h ((I, oI) :: nx) →
      wpAny (model prog w) A (execs body env) (InvPostG h₀ env.locals (J (i + 1)) [(I, oI)] { s with heap := h, toks := tk } Q) E { s with heap := h, toks := tk })
    (done : ∀ m₁ nx h tk, J n m₁ nx → Fr h₀ env.locals h m₁ → News h₀ env.locals h nx → Q .next { s with heap := h, toks := tk }) :
    wpAny (model prog w) A (pyIter (.ref r)) (fun it s₂ => LoopAtV prog w A h₀ env x body Q E it s₂) E s := by
  refine wpAny_pyIter_range hr hsmall ?_
  have W : Walks prog w A s.heap.objs.size [s.heap.objs.size] [s.heap.objs.size] n (fun i v => i < n ∧ ∃ t, v = .int (a + i * c) t)
      (fun i h => IsRangeIter h s.heap.objs.size (a + (i : Nat) * c) ((n : Int) - (i : Nat)) c) := (Walks.range hh _ a c n).bound
  refine ⟨_, _, _, n, _, _, m₀, news, J, rfl, W, ?_, ?_, ?_, (by show IsRangeIter _ _ _ _ _; rw [hsz]; simpa using Heap.get?_push_size _ rfl), F.push _, (fun p hp => ⟨Heap.get?_push_of_some _ (N p hp).1, (N p hp).2⟩), hj, ?_, ?_⟩
  · intro hm
    exact absurd F.ns.lt ((List.mem_singleton.mp hm) ▸ Nat.lt_irrefl _)
  · intro b hb
    rw [List.mem_singleton.mp hb]
    exact next_is_new F
  · intro p hp hI
    exact absurd (Heap.lt_size (N p hp).1) ((List.mem_singleton.mp hI) ▸ Nat.lt_irrefl _)
  · rintro i v m₁ nx s₁ own ⟨h, tk, rfl⟩ hi ⟨_, t, rfl⟩ hJ hoff hown _ hmem hst' F₁ N₁
    have hst2 : ∃ oI : Obj, h.get? s.heap.objs.size = some oI ∧ oI.cls = .type "range_iterator" := ⟨_, hst', rfl⟩
    obtain ⟨oI, hI, hc⟩ := hst2
    have hIn : (s.heap.objs.size, oI) ∈ own := hmem _ (List.mem_singleton.mpr rfl) (next_is_new F) _ hI
    have hne : ∀ p ∈ nx, @Ne Nat p.1 s.heap.objs.size := fun p hp e => hoff p hp (List.mem_singleton.mpr e)
    have N₂ : News h₀ env.locals h ((s.heap.objs.size, oI) :: nx) := fun p hp => by
      rcases List.mem_cons.mp hp with rfl | hp
      · exact N₁ _ (List.mem_append_left _ hIn)
      · exact N₁ _ (List.mem_append_right _ hp)
    have hall : ∀ p ∈ own, p = (s.heap.objs.size, oI) := fun p hp => by
      have e : p.1 = s.heap.objs.size := List.mem_singleton.mp (hown p hp)
      exact news_fun (fun q hq => N₁ q (List.mem_append_left _ hq)) hp hIn e
    refine wpAny_mono (turn i t m₁ nx h tk _ oI hi hc hne hJ F₁ N₂) (fun f s₂ p => ?_) fun _ _ e => e
    have fin : InvEndG h₀ env.locals (J (i + 1)) [(s.heap.objs.size, oI)] { s with heap := h, toks := tk } s₂ → LoopStepU h₀ env.locals [s.heap.objs.size] own (J (i + 1)) { s with heap := h, toks := tk } .next s₂ := by
      rintro HH9
      refine gl fun G9 hG9 => ?_
      obtain ⟨h', tk, m', news', nx', e, F', N', hn, ho, ha, hm⟩ := HH9
      refine hG9 ?_
      clear hG9 G9
      refine ⟨rfl, h', tk, m', nx', e, F', fun p hp => ?_, fun p hp hq => ?_, hm⟩
      · rcases List.mem_append.mp hp with hp | hp
        · exact N' _ (ho _ (by rw [hall p hp]; exact List.mem_singleton.mpr rfl))
        · exact N' _ (hn _ hp)
      · exact ha _ (List.mem_singleton.mpr rfl) p.1 (List.mem_map.mpr ⟨p, hp, rfl⟩) (List.mem_singleton.mp hq).symm
    cases f with
    | ret v => exact .ret p
    | brk => exact .brk p
    | next => exact .next (fin p)
    | cont => exact .cont (fin p)
  · rintro h' tk m' news' F' N' _ hJ
    exact done m' news' h' tk hJ F' N'
/-- the end of a turn: the iterator is let go of the ledger -/
theorem my_end {J : (Str → Option Value) → List (Addr × Obj) → Prop} {L I : Addr} {oI : Obj} {m' : Str → Option Value} {news' : List (Addr × Obj)} {s₁ : Shared} {h' : Heap} {tk : Nat} (F : Fr h₀ L h' m') (N : News h₀ L h' news') (hI : (I, oI) ∈ news') (hj : J m' (news'.filter fun p => decide (p.1 ≠ I))) : InvEndG h₀ L J [(I, oI)] s₁ { s₁ with heap := h', toks := tk } :=
  ⟨h', tk, m', news', _, rfl, F, N, fun p hp => (List.mem_filter.mp hp).1, fun p hp => by rw [List.mem_singleton.mp hp]; exact hI, fun p hp b hb e => by
    obtain ⟨q, hq, rfl⟩ := List.mem_map.mp hb
    have h1 := (List.mem_filter.mp hq).2
    rw [List.mem_singleton.mp hp] at e
    simp only [decide_eq_true_eq] at h1
    exact h1 e.symm, hj⟩
end
/-- what is kept when the objects of bad places are turned -/
noncomputable def Keeps (bad : List Addr) (news news' : List (Addr × Obj)) : Prop := ∀ p ∈ news, p.1 ∉ bad → p ∈ news'
noncomputable def NoTup (bad : List Addr) (news : List (Addr × Obj)) : Prop := ∀ a ∈ bad, ∃ o : Obj, (a, o) ∈ news ∧ o.cls ≠ .type "tuple"
theorem NoTup.tup {bad : List Addr} {h₀ h : Heap} {L : Addr} {news : List (Addr × Obj)} (b : NoTup bad news) (N : News h₀ L h news) {a : Addr} {vs : List Value} {n : Nat} (ha : (a, tupO vs n) ∈ news) : a ∉ bad := fun hm => by
  obtain ⟨o, ho, hc⟩ := b a hm
  have := congrArg (fun p : Addr × Obj => p.2.cls) (news_fun N ha ho rfl)
  exact hc this.symm
theorem RowIn.keeps {w : World} {bad : List Addr} {h₀ h : Heap} {L : Addr} {news news' : List (Addr × Obj)} {r : Row} (hr : RowIn w news r) (N : News h₀ L h news) (b : NoTup bad news) (ha : ∀ a ∈ adrR r, a ∉ bad) (hs : Keeps bad news news') : RowIn w news' r := by
  refine gl fun G9 hG9 => ?_
  obtain ⟨⟨g1, ⟨a1, a2, a3, a4, a5, b1, b2, b3, b4, b5, g2⟩, c, g3⟩, ⟨c', nv', g4, g5⟩, g6⟩ := hr
  refine hG9 ?_
  clear hG9 G9
  refine ⟨⟨hs _ g1 (ha _ (by simp [adrR])), ⟨a1, a2, a3, a4, a5, b1, b2, b3, b4, b5, hs _ g2 (ha _ (by simp [adrR]))⟩, c, hs _ g3 (ha _ (by simp [adrR]))⟩, ⟨c', nv', hs _ g4 (ha _ (by simp [adrR])), g5⟩, fun x hx => ?_⟩
  refine gl fun G9 hG9 => ?_
  obtain ⟨u1, u2, n, h⟩ := g6 x hx
  refine hG9 ?_
  clear hG9 G9
  exact ⟨u1, u2, n, hs _ h (b.tup N h)⟩
theorem WFIn.keeps {w : World} {bad : List Addr} {h₀ h : Heap} {L : Addr} {news news' : List (Addr × Obj)} {q : WFq} (hq : WFIn w news q) (N : News h₀ L h news) (b : NoTup bad news) (ha : ∀ a ∈ adrQ q, a ∉ bad) (hs : Keeps bad news news') : WFIn w news' q := by
  refine gl fun G9 hG9 => ?_
  obtain ⟨h1, ⟨k1, k2, k3, k4, k5, k6, t1, t2, h2⟩, ⟨c4, sv, h3, hisv⟩, ⟨c5, h4⟩, ⟨c6, h5⟩, ⟨c1, lv, h6, hilv⟩, h7⟩ := hq
  refine hG9 ?_
  clear hG9 G9
  refine ⟨hs _ h1 (ha _ (by simp [adrQ])), ⟨k1, k2, k3, k4, k5, k6, t1, t2, hs _ h2 (ha _ (by simp [adrQ]))⟩, ⟨c4, sv, hs _ h3 (ha _ (by simp [adrQ])), hisv⟩, ⟨c5, hs _ h4 (ha _ (by simp [adrQ]))⟩, ⟨c6, hs _ h5 (ha _ (by simp [adrQ]))⟩, ⟨c1, lv, hs _ h6 (ha _ (by simp [adrQ])), hilv⟩, fun r hr => (h7 r hr).keeps N b (fun a hm => ha _ ?_) hs⟩
  simp only [adrQ, List.mem_cons, List.mem_flatMap]
  exact .inr (.inr (.inr (.inr (.inr (.inr ⟨r, hr, hm⟩)))))
theorem FrIn.keeps {bad : List Addr} {h₀ h : Heap} {L : Addr} {news news' : List (Addr × Obj)} {a : Addr} {n d : Int} (hf : FrIn news a n d) (N : News h₀ L h news) (b : NoTup bad news) (hs : Keeps bad news news') : FrIn news' a n d := by
  refine gl fun G9 hG9 => ?_
  obtain ⟨t1, t2, c, h⟩ := hf
  refine hG9 ?_
  clear hG9 G9
  exact ⟨t1, t2, c, hs _ h (b.tup N h)⟩
theorem OwnIn.keeps {prog : Program} {w : World} {bad : List Addr} {h₀ h : Heap} {L : Addr} {news news' : List (Addr × Obj)} {o : OwnS} (ho : OwnIn prog w news o) (N : News h₀ L h news) (b : NoTup bad news) (ha : ∀ a ∈ adrO o, a ∉ bad) (hs : Keeps bad news news') : OwnIn prog w news' o := by
  refine gl fun G9 hG9 => ?_
  obtain ⟨lo, ⟨ob, h1, h2⟩, ⟨c4, wv, h3, h4⟩, ⟨c3, h5⟩, ⟨c1, h6⟩, h7, h8, h9⟩ := ho
  refine hG9 ?_
  clear hG9 G9
  refine ⟨lo, ⟨ob, hs _ h1 (ha _ (by simp [adrO])), h2⟩, ⟨c4, wv, hs _ h3 (ha _ (by simp [adrO])), h4⟩, ⟨c3, hs _ h5 (ha _ (by simp [adrO]))⟩, ⟨c1, hs _ h6 (ha _ (by simp [adrO]))⟩, h7.keeps N b hs, fun x hx => (h8 x hx).keeps N b hs, fun r hr => ?_⟩
  obtain ⟨⟨c, g1⟩, g2⟩ := h9 r hr
  refine ⟨⟨c, hs _ g1 (ha _ ?_)⟩, fun x hx => ?_⟩
  · simp only [adrO, List.mem_cons]
    exact .inr (.inr (.inr (.inr (List.mem_map.mpr ⟨r, hr, rfl⟩))))
  · obtain ⟨⟨u1, u2, c, q1⟩, q2⟩ := g2 x hx
    exact ⟨⟨u1, u2, c, hs _ q1 (b.tup N q1)⟩, q2.keeps N b hs⟩
theorem WFIn.noTup {w : World} {news : List (Addr × Obj)} {q : WFq} (hq : WFIn w news q) : NoTup (adrQ q) news := by
  refine gl fun G9 hG9 => ?_
  obtain ⟨h1, ⟨k1, k2, k3, k4, k5, k6, t1, t2, h2⟩, ⟨c3, sv, h3, _⟩, ⟨c4, h4⟩, ⟨c5, h5⟩, ⟨c6, lv, h6, _⟩, h7⟩ := hq
  refine hG9 ?_
  clear hG9 G9
  intro a ha
  simp only [adrQ, List.mem_cons, List.mem_flatMap, adrR, List.not_mem_nil, or_false] at ha
  rcases ha with rfl | rfl | rfl | rfl | rfl | rfl | ⟨r, hr, ha⟩
  · exact ⟨_, h2, by simp⟩
  · exact ⟨_, h1, by simp⟩
  · exact ⟨_, h3, by simp⟩
  · exact ⟨_, h4, by simp⟩
  · exact ⟨_, h5, by simp⟩
  · exact ⟨_, h6, by simp⟩
  · obtain ⟨⟨g1, ⟨a1, a2, a3, a4, a5, b1, b2, b3, b4, b5, g2⟩, c, g3⟩, ⟨c', nv, g4, _⟩, _⟩ := h7 r hr
    rcases ha with rfl | rfl | rfl | rfl
    · exact ⟨_, g2, by simp⟩
    · exact ⟨_, g1, by simp⟩
    · exact ⟨_, g3, by simp⟩
    · exact ⟨_, g4, by simp⟩
theorem OwnIn.noTup {prog : Program} {w : World} {news : List (Addr × Obj)} {o : OwnS} (ho : OwnIn prog w news o) : NoTup (adrO o) news := by
  refine gl fun G9 hG9 => ?_
  obtain ⟨lo, ⟨ob, h1, h2⟩, ⟨c4, wv, h3, h4⟩, ⟨c3, h5⟩, ⟨c1, h6⟩, h7, h8, h9⟩ := ho
  refine hG9 ?_
  clear hG9 G9
  intro a ha
  simp only [adrO, List.mem_cons, List.mem_map] at ha
  rcases ha with rfl | rfl | rfl | rfl | ⟨r, hr, rfl⟩
  · exact ⟨_, h1, by obtain ⟨_, _, hc, _⟩ := h2; rw [hc.1]; simp⟩
  · exact ⟨_, h3, by simp⟩
  · exact ⟨_, h6, by simp⟩
  · exact ⟨_, h5, by simp⟩
  · obtain ⟨⟨c, g1⟩, _⟩ := h9 r hr
    exact ⟨_, g1, by simp⟩
theorem adrM_sub {o : OwnS} : ∀ a ∈ adrM o, a ∈ adrO o := fun a ha => by
  simp only [adrM, adrO, List.mem_cons] at ha ⊢
  rcases ha with h | h | h | h
  · exact .inl h
  · exact .inr (.inr (.inl h))
  · exact .inr (.inr (.inr (.inl h)))
  · exact .inr (.inr (.inr (.inr h)))
noncomputable def SrcIn (prog : Program) (w : World) (news : List (Addr × Obj)) (src : Addr) : Prop := ∃ so, (src, so) ∈ news ∧ SrcOk prog w src so
theorem SrcIn.noTup {prog : Program} {w : World} {news : List (Addr × Obj)} {src : Addr} (h : SrcIn prog w news src) : NoTup [src] news := by
  refine gl fun G9 hG9 => ?_
  obtain ⟨so, h1, _, d, st, td, ts, h2, _⟩ := h
  refine hG9 ?_
  clear hG9 G9
  intro a ha
  rw [List.mem_singleton.mp ha]
  exact ⟨_, h1, by obtain ⟨_, _, hc, _⟩ := h2; rw [hc.1]; simp⟩
theorem SrcIn.keeps {prog : Program} {w : World} {bad : List Addr} {news news' : List (Addr × Obj)} {src : Addr} (h : SrcIn prog w news src) (hb : src ∉ bad) (hs : Keeps bad news news') : SrcIn prog w news' src := by
  obtain ⟨so, h1, h2⟩ := h
  exact ⟨so, hs _ h1 hb, h2⟩
section
variable {prog : Program} {w : World} {p : Program} {loose : List Str} {mean : ExcName → Option Value} {mg mb : Str → Option Value}
    {dp un : Nat} {gd : Option (List Code)} {cn : Str} {cs : Scope} {a : Addr} {ccd : Value} {cl : List (Str × Addr)} {outer : List Env} {A₀ : Around} {base h₀ : Heap} {L : Addr} {m : Str → Option Value} {s : Shared} {Q E : Value → Shared → Prop}
    {news : List (Addr × Obj)}
theorem next_m {src : Addr} {top : Int} {tt : Tok}
    (B : Below A₀ base outer h₀) (F : Fr h₀ L s.heap m) (X : (hK w.params).In h₀) (T : Top p loose mean mg mb h₀) (hk : cs.kind = .function) (N : News h₀ L s.heap news) (hS : SrcIn prog w news src)
    (hdp : dp + 1 < recursionLimit) (hun : un + 8 < cLine) (htop : 0 < top) (htop2 : top < 100000)
    (ret : ∀ (r : Int) (t : Tok) (h' : Heap) (tk' : Nat) (news' : List (Addr × Obj)), 0 ≤ r → r < top → SrcIn prog w news' src → Keeps [src] news news' → Fr h₀ L h' m → News h₀ L h' news' → Q (.int r t) { s with heap := h', toks := tk' }) :
    wpAny (model prog w) (ktrTop dp un gd cn cs L a ccd cl outer) (call (.ref 246) [.ref src, .int top tt]) Q E s := by
  obtain ⟨so, h1, h2⟩ := hS
  refine next_c (rest := news.filter fun p => decide (p.1 ≠ src)) B F X (fun p hp => ?_) T hk (fun q hq => by simpa using (List.mem_filter.mp hq).2) h2 hdp hun htop htop2 fun r t h' tk' o' a b c d e => ret r t h' tk' _ a b ⟨o', List.mem_cons_self .., c⟩ (fun p hp hn => ?_) d e
  · rcases List.mem_cons.mp hp with rfl | hp
    · exact N _ h1
    · exact N _ (List.mem_filter.mp hp).1
  · exact List.mem_cons_of_mem _ (List.mem_filter.mpr ⟨hp, by simpa using hn⟩)
theorem pick_m {src tl : Addr} {vs : List Value} {c : Nat}
    (B : Below A₀ base outer h₀) (F : Fr h₀ L s.heap m) (X : (hK w.params).In h₀) (T : Top p loose mean mg mb h₀) (hk : cs.kind = .function) (N : News h₀ L s.heap news) (hS : SrcIn prog w news src) (hm : (tl, listOf vs.toArray c) ∈ news)
    (hdp : dp + 9 < recursionLimit) (hun : un + 90 < cLine) (hn : 0 < vs.length) (hn2 : vs.length < 1000)
    (ret : ∀ (v : Value) (h' : Heap) (tk' : Nat) (news' : List (Addr × Obj)), v ∈ vs → SrcIn prog w news' src → Keeps [src] news news' → Fr h₀ L h' m → News h₀ L h' news' → Q v { s with heap := h', toks := tk' }) :
    wpAny (model prog w) (ktrTop dp un gd cn cs L a ccd cl outer) (call (.ref 253) [.ref src, .ref tl]) Q E s := by
  have hS' := hS
  obtain ⟨so, h1, h2⟩ := hS
  refine pick_c (rest := news.filter fun p => decide (p.1 ≠ src)) B F X T hk (fun p hp => ?_) (fun q hq => by simpa using (List.mem_filter.mp hq).2) h2 (List.mem_filter.mpr ⟨hm, ?_⟩) hdp hun hn hn2 fun v h' tk' o' a b c d => ret v h' tk' _ a ⟨o', List.mem_cons_self .., b⟩ (fun p hp hn => ?_) c d
  · rcases List.mem_cons.mp hp with rfl | hp
    · exact N _ h1
    · exact N _ (List.mem_filter.mp hp).1
  · simp only [decide_eq_true_eq]
    intro e
    have h3 := congrArg (fun p : Addr × Obj => p.2.cls) (news_fun N hm h1 e)
    refine gl fun G9 hG9 => ?_
    obtain ⟨_, d, st, td, ts, h4, _⟩ := h2
    refine hG9 ?_
    clear hG9 G9
    refine gl fun G9 hG9 => ?_
    obtain ⟨_, _, hc, _⟩ := h4
    refine hG9 ?_
    clear hG9 G9
    simp [hc.1] at h3
  · exact List.mem_cons_of_mem _ (List.mem_filter.mpr ⟨hp, by simpa using hn⟩)
end
end Part19
theorem ln26 : True := by
  k_with "my eval Tuple" => (k_fold; walk1)
  trivial
section Part20
/-- the state of the two ways of reckoning -/
structure Dst (prog : Program) (w : World) (base news : List (Addr × Obj)) (src wl : Addr) (q : WFq) (o : OwnS) : Prop where
  qi : WFIn w news q
  oi : OwnIn prog w news o
  si : SrcIn prog w news src
  nq : (adrQ q).Nodup
  no : (adrO o).Nodup
  qo : ∀ a ∈ adrQ q, a ∉ adrO o
  qs : src ∉ adrQ q
  os : src ∉ adrO o
  hw : o.wl = wl
  bk : ∀ p ∈ base, p ∈ news
  bq : ∀ p ∈ base, p.1 ∉ adrQ q
  bo : ∀ p ∈ base, p.1 ∉ adrM o
  bs : ∀ p ∈ base, @Ne Nat p.1 src
section
variable {prog : Program} {w : World} {base news news' : List (Addr × Obj)} {src wl : Addr} {q q' : WFq} {o o' : OwnS} {h₀ h : Heap} {L : Addr}
theorem Dst.sstep (S : Dst prog w base news src wl q o) (N : News h₀ L h news) (hs : SrcIn prog w news' src) (hk : Keeps [src] news news') : Dst prog w base news' src wl q o :=
  { S with
    qi := S.qi.keeps N S.si.noTup (fun a ha e => S.qs (List.mem_singleton.mp e ▸ ha)) hk
    oi := S.oi.keeps N S.si.noTup (fun a ha e => S.os (List.mem_singleton.mp e ▸ ha)) hk
    si := hs
    bk := fun p hp => hk _ (S.bk p hp) (fun e => S.bs p hp (List.mem_singleton.mp e)) }
theorem Dst.more (S : Dst prog w base news src wl q o) (hk : ∀ p ∈ news, p ∈ news') : Dst prog w base news' src wl q o :=
  { S with
    qi := S.qi.mono hk
    oi := by
      refine gl fun G9 hG9 => ?_
      obtain ⟨lo, ⟨ob, h1, h2⟩, ⟨c4, wv, h3, h4⟩, ⟨c3, h5⟩, ⟨c1, h6⟩, h7, h8, h9⟩ := S.oi
      refine hG9 ?_
      clear hG9 G9
      exact ⟨lo, ⟨ob, hk _ h1, h2⟩, ⟨c4, wv, hk _ h3, h4⟩, ⟨c3, hk _ h5⟩, ⟨c1, hk _ h6⟩, h7.mono hk, fun x hx => (h8 x hx).mono hk, fun r hr => by
        obtain ⟨⟨c, g1⟩, g2⟩ := h9 r hr
        exact ⟨⟨c, hk _ g1⟩, fun x hx => by
          refine gl fun G9 hG9 => ?_
          obtain ⟨⟨u1, u2, c, q1⟩, q2⟩ := g2 x hx
          refine hG9 ?_
          clear hG9 G9
          exact ⟨⟨u1, u2, c, hk _ q1⟩, q2.mono hk⟩⟩⟩
    si := by obtain ⟨so, h1, h2⟩ := S.si; exact ⟨so, hk _ h1, h2⟩
    bk := fun p hp => hk _ (S.bk p hp) }
theorem Dst.put (S : Dst prog w base news src wl q o) (N : News h₀ L h news) (hq : WFIn w news' q') (hn : (adrQ q').Nodup) (hf : ∀ a ∈ adrQ q', a ∈ adrQ q ∨ ∀ p ∈ news, @Ne Nat p.1 a) (hk : Keeps (adrQ q) news news') : Dst prog w base news' src wl q' o :=
  { S with
    qi := hq
    nq := hn
    oi := S.oi.keeps N S.qi.noTup (fun a ha e => S.qo a e ha) hk
    si := S.si.keeps S.qs hk
    qo := fun a ha hm => by
      rcases hf a ha with h1 | h1
      · exact S.qo a h1 hm
      · obtain ⟨ob, h2, _⟩ := S.oi.noTup a hm
        exact h1 _ h2 rfl
    qs := fun hm => by
      rcases hf _ hm with h1 | h1
      · exact S.qs h1
      · obtain ⟨so, h2, _⟩ := S.si
        exact h1 _ h2 rfl
    bk := fun p hp => hk _ (S.bk p hp) (S.bq p hp)
    bq := fun p hp hm => by
      rcases hf _ hm with h1 | h1
      · exact S.bq p hp h1
      · exact h1 _ (S.bk p hp) rfl }
theorem adrO_cases {a : Addr} : a ∈ adrO o ↔ a = o.wl ∨ a ∈ adrM o := by
  simp only [adrO, adrM, List.mem_cons]
  constructor
  · rintro (h | h | h | h | h)
    · exact .inr (.inl h)
    · exact .inl h
    · exact .inr (.inr (.inl h))
    · exact .inr (.inr (.inr (.inl h)))
    · exact .inr (.inr (.inr (.inr h)))
  · rintro (h | h | h | h | h)
    · exact .inr (.inl h)
    · exact .inl h
    · exact .inr (.inr (.inl h))
    · exact .inr (.inr (.inr (.inl h)))
    · exact .inr (.inr (.inr (.inr h)))
theorem wl_not (hn : (adrO o).Nodup) : o.wl ∉ adrM o := by
  simp only [adrO, adrM, List.nodup_cons, List.mem_cons, not_or] at hn ⊢
  refine gl fun G9 hG9 => ?_
  obtain ⟨⟨d1, d2, d3, d4⟩, ⟨w2, w3, w4⟩, _⟩ := hn
  refine hG9 ?_
  clear hG9 G9
  exact ⟨Ne.symm d1, w2, w3, w4⟩
theorem Dst.own (S : Dst prog w base news src wl q o) (N : News h₀ L h news) (ho : OwnIn prog w news' o') (hw : o'.wl = o.wl) (hn : (adrO o').Nodup) (hf : ∀ a ∈ adrO o', a ∈ adrO o ∨ ∀ p ∈ news, @Ne Nat p.1 a) (hk : Keeps (adrM o) news news') : Dst prog w base news' src wl q o' :=
  have nt : NoTup (adrM o) news := fun a ha => S.oi.noTup a (adrM_sub a ha)
  { S with
    oi := ho
    no := hn
    qi := S.qi.keeps N nt (fun a ha e => S.qo a ha (adrM_sub a e)) hk
    si := S.si.keeps (fun e => S.os (adrM_sub _ e)) hk
    hw := hw.trans S.hw
    qo := fun a ha hm => by
      rcases hf a hm with h1 | h1
      · exact S.qo a ha h1
      · obtain ⟨ob, h2, _⟩ := S.qi.noTup a ha
        exact h1 _ h2 rfl
    os := fun hm => by
      rcases hf _ hm with h1 | h1
      · exact S.os h1
      · obtain ⟨so, h2, _⟩ := S.si
        exact h1 _ h2 rfl
    bk := fun p hp => hk _ (S.bk p hp) (S.bo p hp)
    bo := fun p hp hm => by
      rcases hf _ (adrM_sub _ hm) with h1 | h1
      · rcases adrO_cases.mp h1 with h2 | h2
        · rw [h2, ← hw] at hm; exact wl_not hn hm
        · exact S.bo p hp h2
      · exact h1 _ (S.bk p hp) rfl }
theorem Dst.iter (S : Dst prog w base news src wl q o) {I : Addr} {oI : Obj} (hI : ∀ p ∈ news, @Ne Nat p.1 I) : Dst prog w ((I, oI) :: base) ((I, oI) :: news) src wl q o :=
  have S' := S.more (news' := (I, oI) :: news) fun p hp => List.mem_cons_of_mem _ hp
  { S' with
    bk := fun p hp => by
      rcases List.mem_cons.mp hp with rfl | hp
      · exact List.mem_cons_self ..
      · exact List.mem_cons_of_mem _ (S.bk p hp)
    bq := fun p hp hm => by
      rcases List.mem_cons.mp hp with rfl | hp
      · obtain ⟨ob, h2, _⟩ := S.qi.noTup _ hm
        exact hI _ h2 rfl
      · exact S.bq p hp hm
    bo := fun p hp hm => by
      rcases List.mem_cons.mp hp with rfl | hp
      · obtain ⟨ob, h2, _⟩ := S.oi.noTup _ (adrM_sub _ hm)
        exact hI _ h2 rfl
      · exact S.bo p hp hm
    bs := fun p hp => by
      rcases List.mem_cons.mp hp with rfl | hp
      · obtain ⟨so, h2, _⟩ := S.si
        exact Ne.symm (hI _ h2)
      · exact S.bs p hp }
theorem Dst.drop {I : Addr} {oI : Obj} (S : Dst prog w ((I, oI) :: base) news src wl q o) (N : News h₀ L h news) (hc : oI.cls = .type "range_iterator") (hb : ∀ p ∈ base, @Ne Nat p.1 I) (hwI : @Ne Nat wl I) : Dst prog w base (news.filter fun p => decide (p.1 ≠ I)) src wl q o :=
  have nt : NoTup [I] news := fun a ha => ⟨oI, by rw [List.mem_singleton.mp ha]; exact S.bk _ (List.mem_cons_self ..), by rw [hc]; simp⟩
  have hk : Keeps [I] news (news.filter fun p => decide (p.1 ≠ I)) := fun p hp hn => List.mem_filter.mpr ⟨hp, by simpa using hn⟩
  have nQ : I ∉ adrQ q := S.bq (I, oI) (List.mem_cons_self ..)
  have nO : I ∉ adrO o := fun hm => by
    rcases adrO_cases.mp hm with h | h
    · exact hwI (S.hw ▸ h.symm)
    · exact S.bo (I, oI) (List.mem_cons_self ..) h
  { S with
    qi := S.qi.keeps N nt (fun a ha e => nQ (List.mem_singleton.mp e ▸ ha)) hk
    oi := S.oi.keeps N nt (fun a ha e => nO (List.mem_singleton.mp e ▸ ha)) hk
    si := S.si.keeps (fun e => S.bs (I, oI) (List.mem_cons_self ..) (List.mem_singleton.mp e).symm) hk
    bk := fun p hp => List.mem_filter.mpr ⟨S.bk p (List.mem_cons_of_mem _ hp), by simpa using hb p hp⟩
    bq := fun p hp => S.bq p (List.mem_cons_of_mem _ hp)
    bo := fun p hp => S.bo p (List.mem_cons_of_mem _ hp)
    bs := fun p hp => S.bs p (List.mem_cons_of_mem _ hp) }
end
theorem my_ne3 {prog : Program} {w : World} {A : Around} {E : Value → Shared → Prop} {s : Shared} {h₀ : Heap} {L a b : Addr} {news : List (Addr × Obj)} {x y z : Int} {u1 u2 u3 v1 v2 v3 : Tok} {n n' : Nat} {Q : Value → Shared → Prop} (N : News h₀ L s.heap news) (ha : (a, tupO [.int x u1, .int y u2, .int z u3] n) ∈ news) (hb : (b, tupO [.int x v1, .int y v2, .int z v3] n') ∈ news) (hu : A.units < cLine)
    (h : Q (.bool false) s) : wpAny (model prog w) A (compareOp .NotEq (.ref a) (.ref b)) Q E s := by
  have la : s.heap.IsTuple a #[.int x u1, .int y u2, .int z u3] := ⟨_, (N _ ha).1, rfl, n, rfl⟩
  have lb : s.heap.IsTuple b #[.int x v1, .int y v2, .int z v3] := ⟨_, (N _ hb).1, rfl, n', rfl⟩
  refine RcNeAt.tuples (e := fun _ => true) la lb hu (fun j h1 h2 => ?_) prog w E Q (by
    have e : (!((List.range (min (#[Value.int x u1, .int y u2, .int z u3]).size (#[Value.int x v1, .int y v2, .int z v3]).size)).all (fun _ => true) && (#[Value.int x u1, .int y u2, .int z u3]).size == (#[Value.int x v1, .int y v2, .int z v3]).size)) = false := by rfl
    rw [e]; exact h)
  have h3 : j = 0 ∨ j = 1 ∨ j = 2 := lt3 h1
  rcases h3 with rfl | rfl | rfl
  · have h4 : EqAt A.in1 s (.int x u1) (.int x v1) (x == x) := EqAt.int_int _ _ _ _
    simpa using h4
  · have h4 : EqAt A.in1 s (.int y u2) (.int y v2) (y == y) := EqAt.int_int _ _ _ _
    simpa using h4
  · have h4 : EqAt A.in1 s (.int z u3) (.int z v3) (z == z) := EqAt.int_int _ _ _ _
    simpa using h4
theorem wait_take {q q' : WFq} {k : Nat} {size thing : Int} (h : TakeQ q k size thing q') : waitQ q = waitQ q' + 1 := by
  obtain ⟨r, D, restT, f, restF, hr, ht, _, rfl⟩ := h
  refine gl fun G9 hG9 => ?_
  obtain ⟨pre, post, e, _, hset⟩ := split_at hr
  refine hG9 ?_
  clear hG9 G9
  unfold waitQ
  dsimp only
  rw [hset, e]
  simp only [List.map_append, List.map_cons, List.sum_append, List.sum_cons, ht, List.length_cons]
  omega
theorem wait_nn (q : WFq) : 0 ≤ waitQ q := by
  unfold waitQ
  have h0 : ∀ l : List Row, 0 ≤ (l.map fun r => (r.things.length : Int)).sum := by
    intro l; induction l with
    | nil => simp
    | cons a b ih => simp only [List.map_cons, List.sum_cons]; omega
  exact h0 _
theorem cands_nil {q : WFq} (h : waitQ q = 0) (al : Option Int) : cands q al = [] := by
  unfold cands
  rw [List.filter_eq_nil_iff]
  intro j hj
  have hj := List.mem_range.mp hj
  have e : q.rows[j]? = some q.rows[j] := List.getElem?_eq_getElem hj
  have := (wait_zero.mp h) _ (List.getElem_mem hj)
  simp [goQ, e, goB, this]
theorem sim_init {ws : List Int} {q : WFq} {o : OwnS} {x : Addr} {fs : List Addr} (U0 : 0 < q.unit) (dv : ∀ x ∈ ws, ∃ y, q.unit = y * x) (hb : ∀ x ∈ ws, 1 ≤ x ∧ x ≤ 7) (ht : q.time = 0) (hs : q.steps = ws.map (fun z => q.unit.fdiv z)) (hl : q.last = List.replicate ws.length 0) (hr : q.rows.length = ws.length)
    (hrow : ∀ r ∈ q.rows, r.most = 99 ∧ r.moct = 9999 ∧ r.octs = 0 ∧ r.things = [] ∧ r.fins = []) (o1 : o.weights = ws) (o2 : o.last = List.replicate ws.length (x, 0, 1)) (o3 : o.tn = 0 ∧ o.td = 1) (o4 : o.rows = fs.map fun f => ⟨f, []⟩) (o5 : fs.length = ws.length) : Sim ws 0 q o := by
  refine ⟨U0, hs, fun x hx => ⟨hb x hx, dv x hx⟩, o1, hr, by simp [hl], by simp [o4, o5], by simp [o2], fun k f z hf hz => ?_, fun z hz => ?_, ?_, ?_, fun k r z h1 h2 => ?_⟩
  · rw [hl] at hf
    rw [o2] at hz
    obtain rfl := (List.mem_replicate.mp (List.mem_of_getElem? hf)).2
    obtain rfl := (List.mem_replicate.mp (List.mem_of_getElem? hz)).2
    exact fq_zero _
  · rw [o2] at hz
    obtain rfl := (List.mem_replicate.mp hz).2
    exact ⟨bd0 _, bd1 _⟩
  · rw [ht, o3.1, o3.2]; exact fq_zero _
  · rw [o3.1, o3.2]; exact ⟨bd0 _, bd1 _⟩
  · obtain ⟨a, b, c, d, e⟩ := hrow r (List.mem_of_getElem? h1)
    rw [o4] at h2
    obtain ⟨f, _, rfl⟩ := List.mem_map.mp (List.mem_of_getElem? h2)
    exact ⟨a, b, by rw [c]; decide, by rw [d]; exact Nat.le_refl _, by rw [d]; exact fun _ h => (nomatch h), by rw [d, e]; exact .nil⟩
section
variable {prog : Program} {w : World} {base base' news news' : List (Addr × Obj)} {src wl : Addr} {q q' : WFq} {o o' : OwnS} {h₀ h : Heap} {L : Addr}
theorem Dst.less (S : Dst prog w base news src wl q o) (hb : ∀ p ∈ base', p ∈ base) : Dst prog w base' news src wl q o :=
  { S with
    bk := fun p hp => S.bk p (hb p hp)
    bq := fun p hp => S.bq p (hb p hp)
    bo := fun p hp => S.bo p (hb p hp)
    bs := fun p hp => S.bs p (hb p hp) }
theorem Dst.addT (S : Dst prog w base news src wl q o) (N : News h₀ L h news) {T : Addr} {vs : List Value} {n : Nat} (hT : (T, tupO vs n) ∈ news) : Dst prog w ((T, tupO vs n) :: base) news src wl q o :=
  have nt : NoTup (adrM o) news := fun a ha => S.oi.noTup a (adrM_sub a ha)
  { S with
    bk := fun p hp => by
      rcases List.mem_cons.mp hp with rfl | hp
      · exact hT
      · exact S.bk p hp
    bq := fun p hp => by
      rcases List.mem_cons.mp hp with rfl | hp
      · exact S.qi.noTup.tup N hT
      · exact S.bq p hp
    bo := fun p hp => by
      rcases List.mem_cons.mp hp with rfl | hp
      · exact nt.tup N hT
      · exact S.bo p hp
    bs := fun p hp => by
      rcases List.mem_cons.mp hp with rfl | hp
      · exact fun e => S.si.noTup.tup N hT (List.mem_singleton.mpr e)
      · exact S.bs p hp }
theorem SrcIn.ne_list (hs : SrcIn prog w news src) (N : News h₀ L h news) {a : Addr} {xs : Array Value} {n : Nat} (ha : (a, listOf xs n) ∈ news) : @Ne Nat a src := fun e => by
  refine gl fun G9 hG9 => ?_
  obtain ⟨so, h1, _, d, st, td, ts, h4, _⟩ := hs
  refine hG9 ?_
  clear hG9 G9
  have h3 := congrArg (fun p : Addr × Obj => p.2.cls) (news_fun N ha h1 e)
  refine gl fun G9 hG9 => ?_
  obtain ⟨_, _, hc, _⟩ := h4
  refine hG9 ?_
  clear hG9 G9
  simp [hc.1] at h3
theorem deeds_start {s₀ h₁ : Heap} {L₁ d9 la x tm ro l0 : Addr} {ob : Obj} {news rest : List (Addr × Obj)} {wv fv : List Value} {ws : List Int} {fs : List Addr} {c1 c2 cx ct n : Nat} {x1 x2 t1 t2 : Tok} (N0 : News h₀ L s₀ news) (hS : SrcIn prog w news src) (hw : (wl, listOf wv.toArray c1) ∈ news) (hi : IntsAre wv ws) (lo : (d9 == sysModules) = false)
    (U0 : 0 < q.unit) (dv : ∀ x ∈ ws, ∃ y, q.unit = y * x) (hb : ∀ x ∈ ws, 1 ≤ x ∧ x ≤ 7) (htm : q.time = 0) (hst : q.steps = ws.map (fun z => q.unit.fdiv z)) (hl : q.last = List.replicate ws.length 0) (hrl : q.rows.length = ws.length)
    (hrow : ∀ r ∈ q.rows, r.most = 99 ∧ r.moct = 9999 ∧ r.octs = 0 ∧ r.things = [] ∧ r.fins = []) (nq : (adrQ q).Nodup) (fq' : ∀ a ∈ adrQ q, ∀ p ∈ news, @Ne Nat p.1 a)
    (f1 : fs.length = wv.toArray.size) (f2 : fv = fs.map (fun r => Value.ref r)) (f4 : fs.Pairwise (fun a b : Nat => a < b)) (nro : @Ne Nat d9 ro) (fq3 : ∀ a ∈ adrQ q, @LT.lt Nat _ a d9 ∧ (∀ f ∈ fs, @LT.lt Nat _ a f) ∧ @Ne Nat a ro)
    (hf3 : ∀ f ∈ fs, @LT.lt Nat _ d9 f ∧ (∀ p ∈ news, @LT.lt Nat _ p.1 f) ∧ @Ne Nat f ro) (ld3 : ∀ p ∈ news, @LT.lt Nat _ p.1 d9 ∧ @Ne Nat p.1 ro) (f3 : ∀ r ∈ fs, ∃ c, (r, listOf #[] c) ∈ rest) (e1 : ∀ p ∈ rest, @Ne Nat p.1 d9) (e2 : ∀ p ∈ rest, @Ne Nat p.1 ro)
    (qi3 : WFIn w rest q) (hS3 : SrcIn prog w rest src) (hn3 : ∀ p ∈ news, p ∈ rest) (hd : ob.IsDictOf (strKind prog w) [("weights", .ref wl), ("rows", .ref ro), ("last", .ref la), ("time", .ref tm)])
    (ml : @LT.lt Nat _ l0 la ∧ @LT.lt Nat _ x la ∧ @LT.lt Nat _ ro la ∧ @LT.lt Nat _ d9 la ∧ AllLt la rest) (N : News h₁ L₁ h news') (md : (d9, ob) ∈ news') (mla : (la, listOf (List.replicate n (Value.ref x)).toArray c2) ∈ news') (hn : n = wv.length) (mx : (x, tupO [.int 0 x1, .int 1 x2] cx) ∈ news') (mt : (tm, tupO [.int 0 t1, .int 1 t2] ct) ∈ news') (mr : (ro, LCg.lst fv) ∈ news') (mrest : ∀ p ∈ rest, p ∈ news') :
    ∃ o : OwnS, o.d = d9 ∧ Dst prog w (news.filter fun p => decide (p.1 ≠ src)) news' src wl q o ∧ Sim ws 0 q o := by
  have hwl : wv.length = ws.length := IntsAre.length hi
  obtain ⟨c0, ll, lx⟩ : True ∧ (∀ p ∈ rest, @LT.lt Nat _ p.1 la) ∧ @LT.lt Nat _ ro la ∧ @LT.lt Nat _ d9 la := ⟨trivial, allLt_mem ml.2.2.2.2, ml.2.2.1, ml.2.2.2.1⟩
  have fla : ∀ f ∈ fs, @LT.lt Nat _ f la := fun f hf => by obtain ⟨c, h1⟩ := f3 f hf; exact ll _ h1
  obtain ⟨so, hso, hso2⟩ := hS
  have swl : @Ne Nat wl src := SrcIn.ne_list ⟨so, hso, hso2⟩ N0 hw
  refine ⟨⟨d9, wl, ro, la, tm, ws, List.replicate ws.length (x, 0, 1), 0, 1, fs.map fun f => ⟨f, []⟩⟩, rfl, ?_, sim_init U0 dv hb htm hst hl hrl hrow rfl rfl ⟨rfl, rfl⟩ rfl (by rw [f1]; simp [hwl])⟩
  refine { qi := qi3.mono mrest, oi := ⟨lo, ⟨ob, md, hd⟩, ⟨c1, wv, mrest _ (hn3 _ hw), hi⟩, ⟨fv.length, ?_⟩, ⟨c2, ?_⟩, ⟨t1, t2, ct, mt⟩, fun z hz => ?_, fun r hr => ?_⟩, si := ?_, nq := nq, no := ?_, qo := ?_, qs := ?_, os := ?_, hw := rfl, bk := ?_, bq := ?_, bo := ?_, bs := ?_ }
  · have e : (fs.map fun f => (⟨f, []⟩ : ORow)).map (fun r => Value.ref r.lr) = fv := by rw [f2, List.map_map]; rfl
    show (ro, listOf ((fs.map fun f => (⟨f, []⟩ : ORow)).map fun r => Value.ref r.lr).toArray fv.length) ∈ news'
    rw [e]; exact mr
  · show (la, listOf ((List.replicate ws.length (x, (0 : Int), (1 : Int))).map fun r => Value.ref r.1).toArray c2) ∈ news'
    rw [List.map_replicate, ← hwl, ← hn]; exact mla
  · obtain rfl := (List.mem_replicate.mp hz).2
    exact ⟨x1, x2, cx, mx⟩
  · obtain ⟨f, hf, rfl⟩ := List.mem_map.mp hr
    obtain ⟨c, h1⟩ := f3 f hf
    exact ⟨⟨c, mrest _ h1⟩, fun _ h => (nomatch h)⟩
  · obtain ⟨so, h1, h2⟩ := hS3; exact ⟨so, mrest _ h1, h2⟩
  · show (d9 :: wl :: la :: ro :: (fs.map fun f => (⟨f, []⟩ : ORow)).map fun r => r.lr).Nodup
    have e : (fs.map fun f => (⟨f, []⟩ : ORow)).map (fun r => r.lr) = fs := by rw [List.map_map]; exact List.map_id _
    rw [e]
    simp only [List.nodup_cons, List.mem_cons, not_or]
    refine ⟨⟨Ne.symm (e1 _ (hn3 _ hw)), Nat.ne_of_lt lx.2, nro, fun h => Nat.lt_irrefl _ (hf3 _ h).1⟩, ⟨Nat.ne_of_lt (ll _ (hn3 _ hw)), e2 _ (hn3 _ hw), fun h => Nat.lt_irrefl _ ((hf3 _ h).2.1 _ hw)⟩, ⟨Ne.symm (Nat.ne_of_lt lx.1), fun h => Nat.lt_irrefl _ (fla _ h)⟩, fun h => (hf3 _ h).2.2 rfl, f4.imp fun h => Nat.ne_of_lt h⟩
  · intro a ha hm
    rcases adrO_cases.mp hm with h | h
    · exact fq' a ha _ hw h.symm
    · simp only [adrM, List.mem_cons, List.map_map] at h
      obtain ⟨ob', h2, _⟩ := qi3.noTup a ha
      rcases h with h | h | h | h
      · exact e1 _ h2 h
      · exact absurd h (Nat.ne_of_lt (ll _ h2))
      · exact (fq3 a ha).2.2 h
      · obtain ⟨f, hf, e⟩ := List.mem_map.mp h
        have e : f = a := e
        exact absurd e.symm (Nat.ne_of_lt ((fq3 a ha).2.1 f hf))
  · exact fun h => fq' _ h _ hso rfl
  · intro hm
    rcases adrO_cases.mp hm with h | h
    · exact swl h.symm
    · simp only [adrM, List.mem_cons, List.map_map] at h
      rcases h with h | h | h | h
      · exact absurd h (Nat.ne_of_lt (ld3 _ hso).1)
      · exact absurd h (Nat.ne_of_lt (ll _ (hn3 _ hso)))
      · exact (ld3 _ hso).2 h
      · obtain ⟨f, hf, e⟩ := List.mem_map.mp h
        have e : f = src := e
        exact absurd e.symm (Nat.ne_of_lt ((hf3 f hf).2.1 _ hso))
  · exact fun p hp => mrest _ (hn3 _ (List.mem_filter.mp hp).1)
  · exact fun p hp hm => fq' _ hm p (List.mem_filter.mp hp).1 rfl
  · intro p hp hm
    have hp := (List.mem_filter.mp hp).1
    simp only [adrM, List.mem_cons, List.map_map] at hm
    rcases hm with h | h | h | h
    · exact absurd h (Nat.ne_of_lt (ld3 _ hp).1)
    · exact absurd h (Nat.ne_of_lt (ll _ (hn3 _ hp)))
    · exact (ld3 _ hp).2 h
    · obtain ⟨f, hf, e⟩ := List.mem_map.mp h
      have e : f = p.1 := e
      exact absurd e.symm (Nat.ne_of_lt ((hf3 f hf).2.1 _ hp))
  · exact fun p hp => by simpa using (List.mem_filter.mp hp).2
end
theorem sim_head {ws : List Int} {c k : Nat} {q : WFq} {o o' : OwnS} {r : Row} {D : Addr} {rest : List (Addr × Int × Int)} {size thing size' thing' : Int} (S : Sim ws c q o) (hr : q.rows[k]? = some r) (ht : r.things = (D, size, thing) :: rest) (h2 : LTakenQ o k size' thing' o') : size' = size ∧ thing' = thing := by
  obtain ⟨x, y, rest', tm', tn', td', hx, hy, rfl, rfl, hg, rfl⟩ := h2
  have R := S.rows k r x hr hx
  refine gl fun G9 hG9 => ?_
  obtain ⟨D', as', f', fs', g1, g2, a1, a2, a3, a6⟩ := R.rt.hd y rest' hy
  refine hG9 ?_
  clear hG9 G9
  rw [ht] at g1
  obtain ⟨g3, _⟩ := List.cons.inj g1
  obtain ⟨_, g4⟩ := Prod.mk.inj g3
  obtain ⟨a, b⟩ := Prod.mk.inj g4
  exact ⟨a.symm, b.symm⟩
theorem cands_pos {q : WFq} (h : 0 < waitQ q) : cands q none ≠ [] := fun hc => by
  have h0 : waitQ q = 0 := wait_zero.mpr fun r hr => by
    obtain ⟨j, hj, rfl⟩ := List.getElem_of_mem hr
    have h1 := List.filter_eq_nil_iff.mp hc j (List.mem_range.mpr hj)
    have e : q.rows[j]? = some q.rows[j] := List.getElem?_eq_getElem hj
    simp only [goQ, e, goB] at h1
    simpa using h1
  omega
theorem Best.ne {q : WFq} {al : Option Int} {k : Nat} (h : Best q al k) : cands q al ≠ [] := fun e => by
  have := h.1
  rw [e] at this; cases this
theorem Sim.mono {ws : List Int} {c c' : Nat} {q : WFq} {o : OwnS} (S : Sim ws c q o) (hc : c ≤ c') : Sim ws c' q o :=
  { S with
    lastB := fun x hx => ⟨(S.lastB x hx).1.mono hc, (S.lastB x hx).2.mono hc⟩
    timeB := ⟨S.timeB.1.mono hc, S.timeB.2.mono hc⟩
    rows := fun k r x h1 h2 => by
      have R := S.rows k r x h1 h2
      exact ⟨R.most, R.moct, by have := R.octs; omega, by have := R.len; omega, R.nn, R.rt.mono hc⟩ }
theorem sm_small {a : Int} (h : a.natAbs < 128) : Sm a := Nat.le_trans (bits_small (m := 7) h) (by decide)
theorem Sim.lfacts {ws : List Int} {c : Nat} {q : WFq} {o : OwnS} (S : Sim ws c q o) (hc : c ≤ 90) (hl : ws.length ≤ 8) : o.last.length = o.rows.length ∧ o.weights.length = o.rows.length ∧ o.rows.length < 100 ∧ (∀ r ∈ o.rows, r.things.length < 1000) ∧ Sm o.tn ∧ Sm o.td ∧ (∀ x ∈ o.last, Sm x.2.1 ∧ Sm x.2.2) ∧ (∀ x ∈ o.weights, Sm x) ∧ (∀ r ∈ o.rows, ∀ x ∈ r.things, Sm x.num ∧ Sm x.den) := by
  have row : ∀ x ∈ o.rows, ∃ r, RowSim q.unit c r x := fun x hx => by
    obtain ⟨k, hk, rfl⟩ := List.getElem_of_mem hx
    refine gl fun G9 hG9 => ?_
    obtain ⟨r, x', e1, e2, R⟩ := S.pair (k := k) (by rw [← S.l3]; exact hk)
    refine hG9 ?_
    clear hG9 G9
    rw [List.getElem?_eq_getElem hk] at e2
    obtain rfl := Option.some.inj e2
    exact ⟨r, R⟩
  refine ⟨by rw [S.l4, S.l3], by rw [S.w, S.l3], by rw [S.l3]; omega, fun x hx => ?_, S.timeB.1.sm (by omega), S.timeB.2.sm (by omega), fun x hx => ⟨(S.lastB x hx).1.sm (by omega), (S.lastB x hx).2.sm (by omega)⟩, fun x hx => ?_, fun x hx t ht => ?_⟩
  · obtain ⟨r, R⟩ := row x hx
    have := R.rt.len2
    have := R.len
    omega
  · rw [S.w] at hx
    have := (S.dv x hx).1
    exact sm_small (by omega)
  · obtain ⟨r, R⟩ := row x hx
    have := R.rt.bits t ht
    exact ⟨this.1.sm (by omega), this.2.sm (by omega)⟩
theorem Sim.qfacts {ws : List Int} {c : Nat} {q : WFq} {o : OwnS} (S : Sim ws c q o) (hc : c ≤ 90) (hl : ws.length ≤ 8) : q.rows.length < 100 ∧ q.last.length = q.rows.length ∧ q.steps.length = q.rows.length ∧ (∀ r ∈ q.rows, r.things.length < 1000 ∧ r.fins.length = r.things.length) ∧
    ∀ size : Int, size ≤ 64 → ∀ r ∈ q.rows, r.things.length < 99 ∧ r.fins.length = r.things.length ∧ (r.things.length : Int) < r.most ∧ r.octs + size ≤ r.moct := by
  have row : ∀ r ∈ q.rows, ∃ x, RowSim q.unit c r x := fun r hr => by
    obtain ⟨k, hk, rfl⟩ := List.getElem_of_mem hr
    refine gl fun G9 hG9 => ?_
    obtain ⟨r', x, e1, e2, R⟩ := S.pair (k := k) (by rw [← S.l1]; exact hk)
    refine hG9 ?_
    clear hG9 G9
    rw [List.getElem?_eq_getElem hk] at e1
    obtain rfl := Option.some.inj e1
    exact ⟨x, R⟩
  refine ⟨by rw [S.l1]; omega, by rw [S.l2, S.l1], by rw [S.steps, S.l1]; simp, fun r hr => ?_, fun size hs r hr => ?_⟩
  · obtain ⟨x, R⟩ := row r hr
    exact ⟨by have := R.len; omega, R.rt.len1⟩
  · obtain ⟨x, R⟩ := row r hr
    have h1 := R.len
    have h2 := R.octs
    exact ⟨by omega, R.rt.len1, by rw [R.most]; omega, by rw [R.moct]; omega⟩
theorem sizes_mem {v : Value} {a b c d e : Tok} (h : v ∈ [Value.int 1 a, .int 3 b, .int 10 c, .int 64 d, .int 7 e]) : ∃ sz t, v = .int sz t ∧ 0 ≤ sz ∧ sz ≤ 64 := by
  simp only [List.mem_cons, List.not_mem_nil, or_false] at h
  rcases h with rfl | rfl | rfl | rfl | rfl
  · exact ⟨1, _, rfl, by decide⟩
  · exact ⟨3, _, rfl, by decide⟩
  · exact ⟨10, _, rfl, by decide⟩
  · exact ⟨64, _, rfl, by decide⟩
  · exact ⟨7, _, rfl, by decide⟩
section
variable {prog : Program} {w : World} {base base' news news' : List (Addr × Obj)} {src wl : Addr} {q q' : WFq} {o o' : OwnS} {h₀ h : Heap} {L : Addr}
theorem Dst.three (S : Dst prog w base news src wl q o) {a0 a1 a2 : Addr} {o0 o1 o2 : Obj} (_ : News h₀ L h ((a2, o2) :: (a1, o1) :: (a0, o0) :: news)) (h0 : ∀ p ∈ news, @LT.lt Nat _ p.1 a0) (h1 : @LT.lt Nat _ a0 a1 ∧ AllLt a1 news) (h2 : @LT.lt Nat _ a1 a2 ∧ @LT.lt Nat _ a0 a2 ∧ AllLt a2 news) : Dst prog w ((a2, o2) :: (a1, o1) :: (a0, o0) :: base) ((a2, o2) :: (a1, o1) :: (a0, o0) :: news) src wl q o := by
  have s1 := S.iter (I := a0) (oI := o0) fun p hp => Nat.ne_of_lt (h0 p hp)
  have s2 := s1.iter (I := a1) (oI := o1) fun p hp => by
    rcases List.mem_cons.mp hp with rfl | hp
    · exact Nat.ne_of_lt h1.1
    · exact Nat.ne_of_lt (allLt_mem h1.2 p hp)
  exact s2.iter (I := a2) (oI := o2) fun p hp => by
    rcases List.mem_cons.mp hp with rfl | hp
    · exact Nat.ne_of_lt h2.1
    · rcases List.mem_cons.mp hp with rfl | hp
      · exact Nat.ne_of_lt h2.2.1
      · exact Nat.ne_of_lt (allLt_mem h2.2.2 p hp)
theorem allow_mem {v : Value} {a0 a1 : Addr} {u0 u1 : Tok} {c0 c1 : Nat} (hv : v ∈ [Value.none, .none, .ref a0, .ref a1]) (h0 : (a0, listOf #[.int 0 u0] c0) ∈ news) (h1 : (a1, listOf #[.int 1 u1] c1) ∈ news) : ∃ al, AllowV news v al := by
  simp only [List.mem_cons, List.not_mem_nil, or_false] at hv
  rcases hv with rfl | rfl | rfl | rfl
  · exact ⟨none, .inl ⟨rfl, rfl⟩⟩
  · exact ⟨none, .inl ⟨rfl, rfl⟩⟩
  · exact ⟨some 0, .inr ⟨_, _, _, _, rfl, rfl, h0⟩⟩
  · exact ⟨some 1, .inr ⟨_, _, _, _, rfl, rfl, h1⟩⟩
end
theorem PutQ.keep {q q' : WFq} {k : Nat} {size thing : Int} (h : PutQ q k size thing q') : q'.x = q.x := by
  obtain ⟨r, la, D, l0, t0, _, _, rfl⟩ := h; rfl
theorem TakeQ.keep {q q' : WFq} {k : Nat} {size thing : Int} (h : TakeQ q k size thing q') : q'.x = q.x := by
  obtain ⟨r, D, rT, f, rF, _, _, _, rfl⟩ := h; rfl
theorem LPutQ.keep {o o' : OwnS} {k : Nat} {size thing : Int} (h : LPutQ o k size thing o') : o'.d = o.d ∧ o'.wl = o.wl := by
  obtain ⟨r, la', tm', Ta, Fa, x, l0, tn0, td0, ln, ld, bn, bd, _, _, _, _, rfl⟩ := h; exact ⟨rfl, rfl⟩
theorem LTakenQ.keep {o o' : OwnS} {k : Nat} {size thing : Int} (h : LTakenQ o k size thing o') : o'.d = o.d ∧ o'.wl = o.wl := by
  obtain ⟨r, x, rest, tm', tn', td', _, _, _, _, _, rfl⟩ := h; exact ⟨rfl, rfl⟩
theorem Best.go {q : WFq} {al : Option Int} {k : Nat} (h : Best q al k) : k < q.rows.length ∧ goQ q al k = true := by
  obtain ⟨a, b⟩ := List.mem_filter.mp h.1
  exact ⟨List.mem_range.mp a, b⟩
theorem Dst.up {prog : Program} {w : World} {base news : List (Addr × Obj)} {src wl : Addr} {q : WFq} {o : OwnS} {h₀ h : Heap} {L : Addr} {x : Addr × Obj} (S : Dst prog w base news src wl q o) (_ : News h₀ L h (x :: news)) : Dst prog w base (x :: news) src wl q o := S.more fun p hp => List.mem_cons_of_mem _ hp
end Part20
section Part21
theorem wo21 : True := by
  w_top off
  trivial
theorem ln27 : True := by
  k_with "my call ref" => ((fail_if_success (k_extra "off58")); (k_here; refine hold_ref [165, 246, 253, 272, 279, 143, 149, 157, 162] rfl ?_))
  trivial
theorem finsJ_name {d : Addr} {o : Obj} {l nw : List (Addr × Obj)} {n : Nat} {ys : List Value} (J : FinsJ ((d, o) :: l) n ys nw) : ∃ (d9 : Addr) (o9 : Obj), d9 = d ∧ o9 = o := ⟨_, _, rfl, rfl⟩
theorem ln28 : True := by
  k_with "my compareOp NotEq ref ref" => ((fail_if_success (k_extra "off58")); (k_here; k_dflt (refine' my_ne3 ?N9q70 ?a9q70 ?b9q70 ?u9q70 ?_; (case N9q70 => k_asm); (case a9q70 => k_mem); (case b9q70 => k_mem); (case u9q70 => k_units))))
  trivial
inductive DInv (prog : Program) (w : World) (base : List (Addr × Obj)) (src wl : Addr) (ws : List Int) (i : Nat) (m₁ : Str → Option Value) (nx : List (Addr × Obj)) : Prop
  | mk (q' : WFq) (o' : OwnS) (p0 : m₁ (Str.ofString "source") = some (.ref src)) (p1 : m₁ (Str.ofString "weights") = some (.ref wl)) (p2 : m₁ (Str.ofString "queues") = some (.ref q'.x)) (p3 : m₁ (Str.ofString "own") = some (.ref o'.d)) (p4 : Dst prog w base nx src wl q' o') (p5 : Sim ws i q' o') : DInv prog w base src wl ws i m₁ nx
inductive DWh (prog : Program) (w : World) (base : List (Addr × Obj)) (src wl : Addr) (ws : List Int) (c0 : Nat) (s : Shared) (g1 : Heap) (L1 : Addr) (n : Nat) (s' : Shared) : Prop
  | mk (h : Heap) (tk : Nat) (m₂ : Str → Option Value) (nx : List (Addr × Obj)) (q2 : WFq) (o2 : OwnS) (p0 : s' = { s with heap := h, toks := tk }) (p1 : Fr g1 L1 h m₂) (p2 : News g1 L1 h nx) (p3 : m₂ (Str.ofString "source") = some (.ref src)) (p4 : m₂ (Str.ofString "weights") = some (.ref wl)) (p5 : m₂ (Str.ofString "queues") = some (.ref q2.x)) (p6 : m₂ (Str.ofString "own") = some (.ref o2.d)) (p7 : Dst prog w base nx src wl q2 o2) (p8 : Sim ws (8 + c0) q2 o2) (p9 : (waitQ q2).toNat = n) : DWh prog w base src wl ws c0 s g1 L1 n s'
section
variable {prog : Program} {w : World} {p : Program} {loose : List Str} {mean : ExcName → Option Value} {mg mb : Str → Option Value}
    {dp un : Nat} {gd : Option (List Code)} {cn : Str} {cs : Scope} {a : Addr} {ccd : Value} {cl : List (Str × Addr)} {outer : List Env} {A₀ : Around} {base h₀ : Heap} {L : Addr} {m : Str → Option Value} {s : Shared} {Q E : Value → Shared → Prop}
    {news : List (Addr × Obj)}
set_option maxHeartbeats 8000000 in
theorem deeds_c {src wl : Addr} {wv : List Value} {ws : List Int} {c1 : Nat}
    (B : Below A₀ base outer h₀) (F : Fr h₀ L s.heap m) (X : (hK w.params).In h₀) (T : Top p loose mean mg mb h₀) (hk : cs.kind = .function) (N : News h₀ L s.heap news) (hS : SrcIn prog w news src) (hw : (wl, listOf wv.toArray c1) ∈ news) (hi : IntsAre wv ws) (hb : ∀ x ∈ ws, 1 ≤ x ∧ x ≤ 7) (hl : ws.length ≤ 8) (hl1 : 2 ≤ ws.length)
    (hdp : dp + 60 < recursionLimit) (hun : un + 600 < cLine)
    (ret : ∀ h' tk' news', SrcIn prog w news' src → Keeps [src] news news' → Fr h₀ L h' m → News h₀ L h' news' → Q (.bool true) { s with heap := h', toks := tk' }) :
    wpAny (model prog w) (ktrTop dp un gd cn cs L a ccd cl outer) (call (.ref 284) [.ref src, .ref wl]) Q E s := by
  have kf : (fun (_ : OpenLaw) (_ : Params → Frag) => True) PySem.Challenge.rw_pc0369_01 hK := by k_fill; trivial
  clear kf
  have hb9 : Base s := ⟨⟩
  have hwl : wv.length = ws.length := IntsAre.length hi
  have hlw : wv.length ≤ 8 := by omega
  refine wpAny_call ?_
  k_dflt (refine' code_def ?k1 ?k2 ?k3 ?k4 ?k5 ?kA ?kF ?kK ?k6 ?k7 ?k8 ?k9 ?kB ?_ ?c2 ?c3 ?c4 ?c5; (case kA => exact rfl); (case kF => exact rfl); (case kK => assumption); (case k1 => k_asm); (case k2 => k_asm); (case k3 => k_asm); (case k4 => k_asm); (case k5 => k_asm); (case k6 => k_is); (case k7 => k_is); (case k8 => k_room); (case k9 => first | exact BindsTo.of_eq rfl | exact binds_K (by k_in) rfl (by k_is) rfl rfl rfl); (case c5 => decide); (case kB => exact locs rfl); (case c2 => exact rfl); (case c3 => exact rfl); (case c4 => exact rfl); k_whole)
  intro g1 L1 h1 FG1 F1 N1 B1 X1 T1
  (try dsimp only); (try k_lift B1); (try k_fold)
  replace F1 := fr_open F1
  obtain ⟨m1, F1, em1⟩ := F1
  refine letMA ?_
  intro M9 A9
  k_steps
  refine Hold.mk ?_
  k_dflt (refine' init_c (ws := ws) (most := 99) (moct := 9999) ?k1 ?k2 ?k3 ?k4 ?k5 ?N ?m ?m2 ?i ?b ?l ?l0 ?lim ?leq ?a1 ?a2 ?d ?u ?_; (case k1 => k_asm); (case k2 => k_asm); (case k3 => k_asm); (case k4 => k_asm); (case k5 => first | exact rfl | assumption); (case N => k_asm); (case m => k_mem); (case m2 => k_mem); (case i => assumption); (case b => assumption); (case l => assumption); (case l0 => omega); (case lim => intro v hv; rw [(List.mem_replicate.mp hv).2]; exact ⟨_, _, _, _, (by first | walk_at "look" | exact rfl), by k_mem⟩); (case leq => simp only [List.length_replicate]; omega); (case a1 => decide); (case a2 => decide); (case d => k_room); (case u => k_units))
  intro q hq1 tkq nwq U0 U1 dv htm hst hla hrl hrow qi nq fq kq Fq1 Nq1
  (try dsimp only at Nq1 ⊢)
  (try k_fold)
  have hw2 : (wl, listOf wv.toArray c1) ∈ nwq := kq _ (by k_mem)
  have hS2 : SrcIn prog w nwq src := by
    obtain ⟨so, a1, a2⟩ := hS
    exact ⟨so, kq _ (by k_mem), a2⟩
  have kq' : ∀ p ∈ news, p ∈ nwq := fun p hp => kq p (by simp only [List.mem_cons, hp, or_true])
  have fq' : ∀ a ∈ adrQ q, ∀ p ∈ news, @Ne Nat p.1 a := fun a ha p hp => fq a ha p (by simp only [List.mem_cons, hp, or_true])
  clear kq fq
  k_steps
  refine Hold.mk (LCg.CompSrc.ledger rfl (by k_asm) (by k_asm) (List.mem_cons_of_mem _ hw2) (by simp only [List.size_toArray, sizeLine_eq]; omega) fun g => ?_)
  refine rest_start FinsJ finsJ_nil ?_ ?_
  rotate_left
  · rintro i v ys2 nw I oI C oC D m₂ h tk E' hi1 hP J hC hx1 F9 N9 off ne
    k_steps
    refine Hold.mk (fins_step (by k_asm) (by k_asm) J off (by assumption) fun nw' hs => .inr ⟨_, hs _ (J.1 _ (List.mem_cons_of_mem _ hw2)), rfl, _, rfl⟩)
  rintro fv nw J ro h9 tk9 F9 N9 o9
  refine gl fun G9 hG9 => ?_
  obtain ⟨d9, od9, ed, eo⟩ := finsJ_name J
  refine hG9 ?_
  clear hG9 G9
  subst ed eo
  rename ∀ p ∈ nwq, @LT.lt Nat _ p.1 d9 => ld9
  rename (d9 == sysModules) = false => lo9
  rename od9.IsDictOf _ _ => dd9
  have N10 := take_out (d := d9) N9 (J.1 _ (List.mem_cons_self ..))
  refine gl fun G9 hG9 => ?_
  obtain ⟨fs, f1, f2, f3, f4, f5⟩ := FinsJ.out (d := d9) J (List.mem_cons_self ..)
  refine hG9 ?_
  clear hG9 G9
  have o10 := off1_mem o9
  have nro : @Ne Nat d9 ro := o10 _ (J.1 _ (List.mem_cons_self ..))
  have sub : ∀ p ∈ nwq, p ∈ nw.filter (fun p => decide (p.1 ≠ d9)) := fun p hp => take_out_in (J.1 p (List.mem_cons_of_mem _ hp)) (Nat.ne_of_lt (ld9 p hp))
  have e1 : ∀ p ∈ nw.filter (fun p => decide (p.1 ≠ d9)), p.1 ≠ d9 := take_out_ne
  have e2 : ∀ p ∈ nw.filter (fun p => decide (p.1 ≠ d9)), @Ne Nat p.1 ro := fun p hp => o10 p (List.mem_filter.mp hp).1
  have hw3 := sub _ hw2
  have qi3 := qi.mono sub
  have hS3 : SrcIn prog w (nw.filter (fun p => decide (p.1 ≠ d9))) src := by obtain ⟨so, a1, a2⟩ := hS2; exact ⟨so, sub _ a1, a2⟩
  have hn3 : ∀ p ∈ news, p ∈ nw.filter (fun p => decide (p.1 ≠ d9)) := fun p hp => sub p (kq' p hp)
  have fq3 : ∀ a ∈ adrQ q, @LT.lt Nat _ a d9 ∧ (∀ f ∈ fs, @LT.lt Nat _ a f) ∧ @Ne Nat a ro := fun a ha => by
    obtain ⟨ob, h2, _⟩ := qi.noTup a ha
    exact ⟨ld9 _ h2, fun f hf => f5 f hf _ (List.mem_cons_of_mem _ h2), o10 _ (J.1 _ (List.mem_cons_of_mem _ h2))⟩
  have hf3 : ∀ f ∈ fs, @LT.lt Nat _ d9 f ∧ (∀ p ∈ news, @LT.lt Nat _ p.1 f) ∧ @Ne Nat f ro := fun f hf => by
    obtain ⟨c, h2⟩ := f3 f hf
    exact ⟨f5 f hf _ (List.mem_cons_self ..), fun p hp => f5 f hf _ (List.mem_cons_of_mem _ (kq' p hp)), e2 _ h2⟩
  have ld3 : ∀ p ∈ news, @LT.lt Nat _ p.1 d9 ∧ @Ne Nat p.1 ro := fun p hp => ⟨ld9 _ (kq' p hp), o10 _ (J.1 _ (List.mem_cons_of_mem _ (kq' p hp)))⟩
  clear o10 o9 J N9 sub f5 kq' ld9 qi hS2 hw2
  generalize nw.filter (fun p => decide (p.1 ≠ d9)) = rest at *
  k_steps
  rename News g1 L1 _ _ => NB
  rename Obj.IsDictOf (strKind prog w) _ _ => hdo
  refine gl fun G9 hG9 => ?_
  obtain ⟨o, eo, S, M⟩ := deeds_start (ws := ws) (rest := rest) N hS hw hi lo9 U0 dv hb htm hst hla hrl hrow nq fq' f1 f2 f4 nro fq3 hf3 ld3 f3 e1 e2 qi3 hS3 hn3 hdo (by assumption) NB (by k_mem) (by k_mem) (by exact Int.toNat_natCast _) (by k_mem) (by k_mem) (by k_mem) (fun p hp => by simp only [List.mem_cons, hp, or_true])
  refine hG9 ?_
  clear hG9 G9
  subst eo
  obtain ⟨NW, NX, S⟩ : ∃ NW, News g1 L1 _ NW ∧ Dst prog w (news.filter fun p => decide (p.1 ≠ src)) NW src wl q o := ⟨_, NB, S⟩
  have hwb : (wl, listOf wv.toArray c1) ∈ news.filter fun p => decide (p.1 ≠ src) := List.mem_filter.mpr ⟨hw, by simpa using SrcIn.ne_list hS N hw⟩
  have hfin : Keeps [src] news (news.filter fun p => decide (p.1 ≠ src)) := fun p hp hn => List.mem_filter.mpr ⟨hp, by simpa using hn⟩
  generalize (news.filter fun p => decide (p.1 ≠ src)) = base at *
  clear NB hdo U0 U1 dv htm hst hla hrl hrow nq fq' f1 f2 f4 nro fq3 hf3 ld3 f3 e1 e2 qi3 hS3 hn3 hw3
  refine Hold.mk ?_
  k_dflt (refine' next_m ?k1 ?k2 ?k3 ?k4 ?k5 ?N ?S ?d ?u ?t1 ?t2 ?_; (case k1 => k_asm); (case k2 => k_asm); (case k3 => k_asm); (case k4 => k_asm); (case k5 => first | exact rfl | assumption); (case N => k_asm); (case S => exact S.si); (case d => k_room); (case u => k_units); (case t1 => first | decide | omega); (case t2 => first | decide | omega))
  intro r0 tr0 h11 tk11 nw11 hr00 hr01 hs11 hk11 F11 N11
  replace S := S.sstep NX hs11 hk11
  clear NX hs11 hk11
  (try dsimp only at N11 ⊢)
  (try k_fold)
  obtain ⟨c0, rfl⟩ := Int.eq_ofNat_of_zero_le hr00
  k_steps
  refine Hold.mk ?_
  rename Fr g1 L1 _ _ => FR
  rename News g1 L1 _ _ => NR
  have hrs : Builtin.Range.rangeSize 0 (8 + (c0 : Int)) 1 = ((8 + c0 : Nat) : Int) := by have h := rangeSize_nat 0 (8 + c0); simp at h; rw [h]; omega
  refine my_range (n := 8 + c0) (fun i m₁ nx => DInv prog w base src wl ws i m₁ nx) (by rfl) (by assumption) (by exact small_one (by omega) (by omega) (by omega) (by omega)) hrs FR NR ⟨q, o, (by first | walk_at "look" | exact rfl), (by first | walk_at "look" | exact rfl), (by first | walk_at "look" | exact rfl), (by first | walk_at "look" | exact rfl), S, M⟩ ?_ ?_
  rotate_left
  · rintro m₁ nx h tk HH9 FE NE
    refine gl fun G9 hG9 => ?_
    obtain ⟨q1, o1, g1', g2', g3', g4', S1, M1⟩ := HH9
    refine hG9 ?_
    clear hG9 G9
    clear FR NR S M
    have FX := FE
    replace FX : Fr g1 L1 h _ := FX
    replace NE : News g1 L1 h nx := NE
    clear FE
    k_steps
    refine Hold.mk ?_
    rename Fr g1 L1 _ _ => F4
    rename News g1 L1 _ _ => N4
    refine while_ind (fun n s' => DWh prog w base src wl ws c0 s g1 L1 n s') (by first | passes_own | with_unfolding_all passes_own) ?_ (waitQ q1).toNat _ ⟨_, _, _, _, q1, o1, (by first | walk_at "look" | exact rfl), F4, N4, (by first | walk_at "look" | exact rfl), (by first | walk_at "look" | exact rfl), (by first | walk_at "look" | exact rfl), (by first | walk_at "look" | exact rfl), S1, M1, (by first | walk_at "look" | exact rfl)⟩
    clear F4 N4 S1 M1
    rintro n s' HH9
    refine gl fun G9 hG9 => ?_
    obtain ⟨h, tk, m₂, nx, q2, o2, rfl, F5, N5, w1, w2, w3, w4, S2, M2, hn⟩ := HH9
    refine hG9 ?_
    clear hG9 G9
    have FY := F5
    clear F5
    have qf := M2.qfacts (by omega) hl
    have lf := M2.lfacts (by omega) hl
    have hq2 := S2.qi
    refine gl fun G9 hG9 => ?_
    obtain ⟨y1, ⟨k1, k2, k3, k4, k5, k6, t1, t2, y2⟩, ⟨c4, sv, y3, hisv⟩, ⟨c5, y4⟩, ⟨c6, y5⟩, ⟨c7, lv, y6, hilv⟩, y7⟩ := hq2
    refine hG9 ?_
    clear hG9 G9
    k_steps
    refine Hold.mk (waiting_c (q := q2) (la := q2.la) (by k_asm) (by k_asm) (by k_asm) (by k_asm) rfl (by k_asm) (by k_mem) (by k_mem) (by k_mem) (fun r hr => (y7 r hr).1) qf.1 (fun r hr => (qf.2.2.2.1 r hr).1) (by k_room) (by k_units) fun tw hw9 tkw Fw Nw => ?_)
    clear y3 y4 y5 y6 y7
    (try dsimp only)
    (try k_fold)
    k_steps
    refine whlIf_both (fun hbt => ?_) (fun hbf => ?_)
    · have hw0 : 0 < waitQ q2 := of_decide_eq_true hbt
      clear hbt
      k_steps
      rename News g1 L1 _ _ => NX
      refine Hold.mk ?_
      k_dflt (refine' take_c0 (q := q2) ?k1 ?k2 ?k3 ?k4 ?k5 ?N ?m ?n ?i ?b ?d ?u ?_ ?_; (case k1 => k_asm); (case k2 => k_asm); (case k3 => k_asm); (case k4 => k_asm); (case k5 => first | exact rfl | assumption); (case N => k_asm); (case m => exact S2.qi); (case n => exact S2.nq); (case i => exact qf.1); (case b => exact qf.2.2.2.1); (case d => k_room); (case u => k_units))
      · intro h5 tk5 hc F5 N5
        exact absurd hc (cands_pos hw0)
      intro q3 kk size thing T9 n9 u1 u2 u3 h5 tk5 nw5 hb3 hT3 hq3 hadr3 mT3 hfT3 hk5 F5 N5
      have S3 := (S2.put NX hq3 (hadr3 ▸ S2.nq) (fun a ha => .inl (hadr3 ▸ ha)) hk5).addT N5 mT3
      refine gl fun G9 hG9 => ?_
      obtain ⟨mqa1, ⟨_, _, _, _, _, _, _, _, mqb1⟩, _⟩ := S3.qi
      refine hG9 ?_
      clear hG9 G9
      clear NX S2 hk5 hq3
      (try dsimp only at N5 ⊢)
      (try k_fold)
      k_steps
      rename News g1 L1 _ _ => NX
      refine Hold.mk ?_
      k_dflt (refine' ltaken_c (o := o2) (al := none) (go := goQ q2 none) (G := headF q2) (U := q2.unit) ?k1 ?k2 ?k3 ?k4 ?k5 ?N ?ho ?hn ?a ?b ?v ?g ?h ?i ?s1 ?s2 ?s3 ?d ?u ?_ ?_; (case k1 => k_asm); (case k2 => k_asm); (case k3 => k_asm); (case k4 => k_asm); (case k5 => first | exact rfl | assumption); (case N => k_asm); (case ho => exact S3.oi); (case hn => exact S3.no); (case a => exact lf.2.2.1); (case b => exact lf.2.2.2.1); (case v => exact .inl ⟨rfl, rfl⟩); (case g => exact M2.go none); (case h => exact M2.U0); (case i => exact M2.head); (case s1 => exact lf.2.2.2.2.1); (case s2 => exact lf.2.2.2.2.2.1); (case s3 => exact lf.2.2.2.2.2.2.2.2); (case d => k_room); (case u => k_units))
      · intro h6 tk6 hnone F6 N6
        have h0 := hnone kk (by have := hb3.go.1; rw [M2.l1] at this; rw [M2.l3]; exact this)
        rw [hb3.go.2] at h0; cases h0
      intro o3 k3 size3 thing3 T3 n3 v1 v2 v3 h6 tk6 nw6 hk3 hgo3 hle3 hL3 ho3 hadr mT4 hfT4 hk6 F6 N6
      have hb4 := M2.best hk3 hgo3 hle3
      obtain rfl := hb4.uniq hb3
      obtain ⟨rfl, rfl, M3⟩ := sim_take M2 hT3 hL3
      have S4 := (S3.own NX ho3 hL3.keep.2 (hadr ▸ S3.no) (fun a ha => .inl (hadr ▸ ha)) hk6)
      clear NX S3 hk6 ho3
      have mT5 := S4.bk _ (List.mem_cons_self ..)
      (try dsimp only at N6 ⊢)
      (try k_fold)
      k_steps
      rename Fr g1 L1 _ _ => F7
      rename News g1 L1 _ _ => N7
      exact ⟨(waitQ q3).toNat, by have h1 := wait_take hT3; have h2 := wait_nn q3; omega, _, _, _, _, q3, o3, (by first | walk_at "look" | exact rfl), F7, N7, (by first | walk_at "look" | exact rfl), (by first | walk_at "look" | exact rfl), by rw [hT3.keep]; walk_at "look", by rw [hL3.keep.1]; walk_at "look", S4.less fun p hp => List.mem_cons_of_mem _ hp, M3, (by first | walk_at "look" | exact rfl)⟩
    · have hw0 : waitQ q2 = 0 := by have h1 : ¬ 0 < waitQ q2 := of_decide_eq_false hbf; have := wait_nn q2; omega
      clear hbf
      k_steps
      rename News g1 L1 _ _ => NX
      refine Hold.mk ?_
      k_dflt (refine' take_c0 (q := q2) ?k1 ?k2 ?k3 ?k4 ?k5 ?N ?m ?n ?i ?b ?d ?u ?_ ?_; (case k1 => k_asm); (case k2 => k_asm); (case k3 => k_asm); (case k4 => k_asm); (case k5 => first | exact rfl | assumption); (case N => k_asm); (case m => exact S2.qi); (case n => exact S2.nq); (case i => exact qf.1); (case b => exact qf.2.2.2.1); (case d => k_room); (case u => k_units))
      · intro h5 tk5 hc F5 N5
        (try dsimp only at N5 ⊢)
        (try k_fold)
        k_steps
        rename News g1 L1 _ _ => NX2
        refine Hold.mk ?_
        k_dflt (refine' ltaken_c (o := o2) (al := none) (go := goQ q2 none) (G := headF q2) (U := q2.unit) ?k1 ?k2 ?k3 ?k4 ?k5 ?N ?ho ?hn ?a ?b ?v ?g ?h ?i ?s1 ?s2 ?s3 ?d ?u ?_ ?_; (case k1 => k_asm); (case k2 => k_asm); (case k3 => k_asm); (case k4 => k_asm); (case k5 => first | exact rfl | assumption); (case N => k_asm); (case ho => exact S2.oi); (case hn => exact S2.no); (case a => exact lf.2.2.1); (case b => exact lf.2.2.2.1); (case v => exact .inl ⟨rfl, rfl⟩); (case g => exact M2.go none); (case h => exact M2.U0); (case i => exact M2.head); (case s1 => exact lf.2.2.2.2.1); (case s2 => exact lf.2.2.2.2.2.1); (case s3 => exact lf.2.2.2.2.2.2.2.2); (case d => k_room); (case u => k_units))
        · intro h6 tk6 hnone F6 N6
          (try dsimp only at N6 ⊢)
          (try k_fold)
          k_steps
          exact ret _ _ _ S2.si (fun p hp hn => S2.bk p (hfin p hp hn)) (by k_asm) (by k_asm)
        · intro o3 k3 size3 thing3 T3 n3 v1 v2 v3 h6 tk6 nw6 hk3 hgo3
          exact absurd hgo3 (by have h1 := M2.none.mp (cands_nil hw0 none) k3 hk3; rw [h1]; decide)
      · intro q3 kk size thing T9 n9 u1 u2 u3 h5 tk5 nw5 hb3
        exact absurd (cands_nil hw0 none) hb3.ne
  · rintro i t m₁ nx h tk I oI hin hcI hI HH9 FT NT
    refine gl fun G9 hG9 => ?_
    obtain ⟨q1, o1, g1', g2', g3', g4', S1, M1⟩ := HH9
    refine hG9 ?_
    clear hG9 G9
    have FX := FT
    replace FX : Fr g1 L1 h _ := FX
    replace NT : News g1 L1 h ((I, oI) :: nx) := NT
    clear FT FR NR S M
    have hbI : ∀ p ∈ base, @Ne Nat p.1 I := fun p hp => hI p (S1.bk p hp)
    have S2 := S1.iter (oI := oI) hI
    clear S1
    have qf := M1.qfacts (by omega) hl
    have lf := M1.lfacts (by omega) hl
    k_steps
    rename News g1 L1 _ _ => NX
    refine Hold.mk ?_
    k_dflt (refine' next_m ?k1 ?k2 ?k3 ?k4 ?k5 ?N ?S ?d ?u ?t1 ?t2 ?_; (case k1 => k_asm); (case k2 => k_asm); (case k3 => k_asm); (case k4 => k_asm); (case k5 => first | exact rfl | assumption); (case N => k_asm); (case S => exact S2.si); (case d => k_room); (case u => k_units); (case t1 => first | decide | omega); (case t2 => first | decide | omega))
    intro r5 tr5 h12 tk12 nw12 hr50 hr51 hs12 hk12 F12 N12
    have S3 := S2.sstep NX hs12 hk12
    refine gl fun G9 hG9 => ?_
    obtain ⟨mqa2, ⟨_, _, _, _, _, _, _, _, mqb2⟩, _⟩ := S3.qi
    refine hG9 ?_
    clear hG9 G9
    clear NX hs12 hk12 S2
    (try dsimp only at N12 ⊢)
    (try k_fold)
    have hw12 := S3.bk _ (List.mem_cons_of_mem _ hwb)
    by_cases h3 : r5 < 3
    · k_steps
      rename News g1 L1 _ _ => NX
      refine Hold.mk ?_
      k_dflt (refine' next_m ?k1 ?k2 ?k3 ?k4 ?k5 ?N ?S ?d ?u ?t1 ?t2 ?_; (case k1 => k_asm); (case k2 => k_asm); (case k3 => k_asm); (case k4 => k_asm); (case k5 => first | exact rfl | assumption); (case N => k_asm); (case S => exact S3.si); (case d => k_room); (case u => k_units); (case t1 => first | decide | omega); (case t2 => first | decide | omega))
      intro k0 tk0 h13 tk13 nw13 hk00 hk01 hs13 hk13 F13 N13
      have S4 := S3.sstep NX hs13 hk13
      refine gl fun G9 hG9 => ?_
      obtain ⟨mqa3, ⟨_, _, _, _, _, _, _, _, mqb3⟩, _⟩ := S4.qi
      refine hG9 ?_
      clear hG9 G9
      clear NX hs13 hk13 S3
      (try dsimp only at N13 ⊢)
      (try k_fold)
      obtain ⟨k, rfl⟩ := Int.eq_ofNat_of_zero_le hk00
      k_steps
      rename News g1 L1 _ _ => NX

      refine Hold.mk ?_
      k_dflt (refine' pick_m  ?k1 ?k2 ?k3 ?k4 ?k5 ?N ?S ?m ?d ?u ?t1 ?t2 ?_; (case k1 => k_asm); (case k2 => k_asm); (case k3 => k_asm); (case k4 => k_asm); (case k5 => first | exact rfl | assumption); (case N => k_asm); (case S => exact (S4.more fun p hp => List.mem_cons_of_mem _ hp).si); (case m => k_mem); (case d => k_room); (case u => k_units); (case t1 => exact Nat.zero_lt_succ _); (case t2 => simp only [List.length_cons, List.length_nil]; omega))
      intro v h14 tk14 nw14 hv hs14 hk14 F14 N14
      have S5 := (S4.more fun p hp => List.mem_cons_of_mem _ hp).sstep NX hs14 hk14
      refine gl fun G9 hG9 => ?_
      obtain ⟨mqa4, ⟨_, _, _, _, _, _, _, _, mqb4⟩, _⟩ := S5.qi
      refine hG9 ?_
      clear hG9 G9
      clear NX hs14 hk14 S4
      obtain ⟨sz, tsz, rfl, hz⟩ := sizes_mem hv
      (try dsimp only at N14 ⊢)
      (try k_fold)
      k_steps
      rename News g1 L1 _ _ => NX
      replace S5 := S5.up NX
      refine Hold.mk ?_
      k_dflt (refine' lput_c (o := o1) (k := k) ?k1 ?k2 ?k3 ?k4 ?k5 ?N ?ho ?hn ?a ?b ?c ?d ?e ?f1 ?f2 ?f3 ?f4 ?f5 ?g ?u ?_; (case k1 => k_asm); (case k2 => k_asm); (case k3 => k_asm); (case k4 => k_asm); (case k5 => first | exact rfl | assumption); (case N => k_asm); (case ho => exact S5.oi); (case hn => exact S5.no); (case a => rw [M1.l3]; omega); (case b => exact lf.1); (case c => exact lf.2.1); (case d => exact lf.2.2.1); (case e => exact lf.2.2.2.1); (case f1 => exact lf.2.2.2.2.1); (case f2 => exact lf.2.2.2.2.2.1); (case f3 => exact lf.2.2.2.2.2.2.1); (case f4 => exact lf.2.2.2.2.2.2.2.1); (case f5 => exact sm_small (by omega)); (case g => k_room); (case u => k_units))
      intro o2 h15 tk15 nw15 hL ho2 hn2 hf2 hk15 F15 N15
      have S6 := S5.own NX ho2 hL.keep.2 hn2 hf2 hk15
      refine gl fun G9 hG9 => ?_
      obtain ⟨mqa5, ⟨_, _, _, _, _, _, _, _, mqb5⟩, _⟩ := S6.qi
      refine hG9 ?_
      clear hG9 G9
      clear NX ho2 hn2 hf2 hk15 S5
      (try dsimp only at N15 ⊢)
      (try k_fold)
      k_steps
      rename News g1 L1 _ _ => NX
      refine Hold.mk ?_
      k_dflt (refine' put_c (q := q1) (k := k) ?k1 ?k2 ?k3 ?k4 ?k5 ?N ?ho ?hn ?a ?b ?c ?d ?e ?f1 ?f2 ?g ?u ?_; (case k1 => k_asm); (case k2 => k_asm); (case k3 => k_asm); (case k4 => k_asm); (case k5 => first | exact rfl | assumption); (case N => k_asm); (case ho => exact S6.qi); (case hn => exact S6.nq); (case a => rw [M1.l1]; omega); (case b => exact qf.1); (case c => exact qf.2.1); (case d => exact qf.2.2.1); (case e => exact qf.2.2.2.2 _ hz.2); (case f1 => exact hz.1); (case f2 => have := hz.2; omega); (case g => k_room); (case u => k_units))
      intro q2 h16 tk16 nw16 hP hq2 hnq2 hfq2 hk16 F16 N16
      have S7 := S6.put NX hq2 hnq2 hfq2 hk16
      clear NX hq2 hnq2 hfq2 hk16 S6
      (try dsimp only at N16 ⊢)
      (try k_fold)
      k_steps
      rename News g1 L1 _ _ => NZ
      exact my_end (by k_asm) NZ (S7.bk _ (List.mem_cons_self ..)) ⟨q2, o2, (by first | walk_at "look" | exact rfl), (by first | walk_at "look" | exact rfl), by rw [hP.keep]; walk_at "look", by rw [hL.keep.1]; walk_at "look", S7.drop NZ hcI hbI (hbI _ hwb), sim_put M1 hz hP hL⟩
    · k_steps
      rename News g1 L1 _ _ => NX
      have S4 := S3.three NX (by assumption) (by assumption) (by assumption)
      refine Hold.mk ?_
      k_dflt (refine' pick_m  ?k1 ?k2 ?k3 ?k4 ?k5 ?N ?S ?m ?d ?u ?t1 ?t2 ?_; (case k1 => k_asm); (case k2 => k_asm); (case k3 => k_asm); (case k4 => k_asm); (case k5 => first | exact rfl | assumption); (case N => k_asm); (case S => exact S4.si); (case m => k_mem); (case d => k_room); (case u => k_units); (case t1 => exact Nat.zero_lt_succ _); (case t2 => simp only [List.length_cons, List.length_nil]; omega))
      intro v h14 tk14 nw14 hv hs14 hk14 F14 N14
      have S5 := S4.sstep NX hs14 hk14
      refine gl fun G9 hG9 => ?_
      obtain ⟨mqa7, ⟨_, _, _, _, _, _, _, _, mqb7⟩, _⟩ := S5.qi
      refine hG9 ?_
      clear hG9 G9
      clear NX hs14 hk14 S4 S3
      obtain ⟨BB, al, S5, hav, hBB⟩ : ∃ BB al, Dst prog w BB nw14 src wl q1 o1 ∧ AllowV BB v al ∧ ∀ p ∈ (I, oI) :: base, p ∈ BB := by
        obtain ⟨al, ha⟩ := allow_mem hv (List.mem_cons_of_mem _ (List.mem_cons_of_mem _ (List.mem_cons_self ..))) (List.mem_cons_of_mem _ (List.mem_cons_self ..))
        exact ⟨_, al, S5, ha, fun p hp => List.mem_cons_of_mem _ (List.mem_cons_of_mem _ (List.mem_cons_of_mem _ hp))⟩
      (try dsimp only at N14 ⊢)
      (try k_fold)
      k_steps
      refine Hold.mk ?_
      k_dflt (refine' look_c (q := q1) (al := al) ?k1 ?k2 ?k3 ?k4 ?k5 ?N ?m ?i ?b ?v ?d ?u ?_ ?_; (case k1 => k_asm); (case k2 => k_asm); (case k3 => k_asm); (case k4 => k_asm); (case k5 => first | exact rfl | assumption); (case N => k_asm); (case m => exact S5.qi); (case i => exact qf.1); (case b => exact qf.2.2.2.1); (case v => exact hav.mono S5.bk); (case d => k_room); (case u => k_units))
      · intro h15 tk15 hc F15 N15
        (try dsimp only at N15 ⊢)
        (try k_fold)
        k_steps
        refine Hold.mk ?_
        k_dflt (refine' ltaken_c (o := o1) (al := al) (go := goQ q1 al) (G := headF q1) (U := q1.unit) ?k1 ?k2 ?k3 ?k4 ?k5 ?N ?ho ?hn ?a ?b ?v ?g ?h ?i ?s1 ?s2 ?s3 ?d ?u ?_ ?_; (case k1 => k_asm); (case k2 => k_asm); (case k3 => k_asm); (case k4 => k_asm); (case k5 => first | exact rfl | assumption); (case N => k_asm); (case ho => exact S5.oi); (case hn => exact S5.no); (case a => exact lf.2.2.1); (case b => exact lf.2.2.2.1); (case v => exact hav.mono S5.bk); (case g => exact M1.go al); (case h => exact M1.U0); (case i => exact M1.head); (case s1 => exact lf.2.2.2.2.1); (case s2 => exact lf.2.2.2.2.2.1); (case s3 => exact lf.2.2.2.2.2.2.2.2); (case d => k_room); (case u => k_units))
        · intro h16 tk16 hnone F16 N16
          (try dsimp only at N16 ⊢)
          (try k_fold)
          k_steps
          rename News g1 L1 _ _ => NX3
          replace S5 := S5.up NX3
          refine Hold.mk ?_
          k_dflt (refine' take_c (q := q1) (al := al) ?k1 ?k2 ?k3 ?k4 ?k5 ?N ?m ?n ?i ?b ?v ?d ?u ?_ ?_; (case k1 => k_asm); (case k2 => k_asm); (case k3 => k_asm); (case k4 => k_asm); (case k5 => first | exact rfl | assumption); (case N => k_asm); (case m => exact S5.qi); (case n => exact S5.nq); (case i => exact qf.1); (case b => exact qf.2.2.2.1); (case v => exact hav.mono S5.bk); (case d => k_room); (case u => k_units))
          · intro h17 tk17 hc2 F17 N17
            (try dsimp only at N17 ⊢)
            (try k_fold)
            k_steps
            rename News g1 L1 _ _ => NZ
            exact my_end (by k_asm) NZ (S5.bk _ (hBB _ (List.mem_cons_self ..))) ⟨q1, o1, (by first | walk_at "look" | exact rfl), (by first | walk_at "look" | exact rfl), (by first | walk_at "look" | exact rfl), (by first | walk_at "look" | exact rfl), (S5.less hBB).drop NZ hcI hbI (hbI _ hwb), M1.mono (Nat.le_succ _)⟩
          · intro q3 k3 size3 thing3 T3 n3 w1 w2 w3 h17 tk17 nw17 hb3
            exact absurd hc hb3.ne
        · intro o2 k2 size2 thing2 T2 n2 v1 v2 v3 h16 tk16 nw16 hk2 hgo2
          exact absurd hgo2 (by have h1 := M1.none.mp hc k2 hk2; rw [h1]; decide)
      · intro k r D size thing rest9 T9 n9 u1 u2 u3 h15 tk15 hr9 ht9 hbest hT9 F15 N15
        have S6 := S5.iter (I := T9) (oI := tupO [.int (k : Int) u1, .int size u2, .int thing u3] n9) hT9
        (try dsimp only at N15 ⊢)
        (try k_fold)
        k_steps
        rename News g1 L1 _ _ => NX
        refine Hold.mk ?_
        k_dflt (refine' ltaken_c (o := o1) (al := al) (go := goQ q1 al) (G := headF q1) (U := q1.unit) ?k1 ?k2 ?k3 ?k4 ?k5 ?N ?ho ?hn ?a ?b ?v ?g ?h ?i ?s1 ?s2 ?s3 ?d ?u ?_ ?_; (case k1 => k_asm); (case k2 => k_asm); (case k3 => k_asm); (case k4 => k_asm); (case k5 => first | exact rfl | assumption); (case N => k_asm); (case ho => exact S6.oi); (case hn => exact S6.no); (case a => exact lf.2.2.1); (case b => exact lf.2.2.2.1); (case v => exact hav.mono fun p hp => S6.bk p (List.mem_cons_of_mem _ hp)); (case g => exact M1.go al); (case h => exact M1.U0); (case i => exact M1.head); (case s1 => exact lf.2.2.2.2.1); (case s2 => exact lf.2.2.2.2.2.1); (case s3 => exact lf.2.2.2.2.2.2.2.2); (case d => k_room); (case u => k_units))
        · intro h16 tk16 hnone F16 N16
          have h0 := hnone k (by have := hbest.go.1; rw [M1.l1] at this; rw [M1.l3]; exact this)
          rw [hbest.go.2] at h0; cases h0
        · intro o2 k2 size2 thing2 T2 n2 v1 v2 v3 h16 tk16 nw16 hk2 hgo2 hle2 hL ho2 hadr mT2 hfT2 hk16 F16 N16
          have hb2 := M1.best hk2 hgo2 hle2
          obtain rfl := hb2.uniq hbest
          obtain ⟨rfl, rfl⟩ := sim_head M1 hr9 ht9 hL
          have S7 := (S6.own NX ho2 hL.keep.2 (hadr ▸ S6.no) (fun a ha => .inl (hadr ▸ ha)) hk16).addT N16 mT2
          refine gl fun G9 hG9 => ?_
          obtain ⟨mqa6, ⟨_, _, _, _, _, _, _, _, mqb6⟩, _⟩ := S7.qi
          refine hG9 ?_
          clear hG9 G9
          clear NX ho2 hk16 S6 S5
          have mT1 := S7.bk _ (List.mem_cons_of_mem _ (List.mem_cons_self ..))
          (try dsimp only at N16 ⊢)
          (try k_fold)
          k_steps
          rename News g1 L1 _ _ => NX
          replace S7 := S7.up NX
          refine Hold.mk ?_
          k_dflt (refine' take_c (q := q1) (al := al) ?k1 ?k2 ?k3 ?k4 ?k5 ?N ?m ?n ?i ?b ?v ?d ?u ?_ ?_; (case k1 => k_asm); (case k2 => k_asm); (case k3 => k_asm); (case k4 => k_asm); (case k5 => first | exact rfl | assumption); (case N => k_asm); (case m => exact S7.qi); (case n => exact S7.nq); (case i => exact qf.1); (case b => exact qf.2.2.2.1); (case v => exact hav.mono fun p hp => S7.bk p (List.mem_cons_of_mem _ (List.mem_cons_of_mem _ hp))); (case d => k_room); (case u => k_units))
          · intro h17 tk17 hc2 F17 N17
            exact absurd hc2 hbest.ne
          · intro q3 k3 size3 thing3 T3 n3 w1 w2 w3 h17 tk17 nw17 hb3 hT3 hq3 hadr3 mT3 hfT3 hk17 F17 N17
            obtain rfl := hb3.uniq hbest
            obtain ⟨rfl, rfl, M2⟩ := sim_take M1 hT3 hL
            have S8 := S7.put NX hq3 (hadr3 ▸ S7.nq) (fun a ha => .inl (hadr3 ▸ ha)) hk17
            clear NX hq3 hk17 S7
            have mT5 := S8.bk _ (List.mem_cons_self ..)
            (try dsimp only at N17 ⊢)
            (try k_fold)
            k_steps
            rename News g1 L1 _ _ => NZ
            exact my_end (by k_asm) NZ (S8.bk _ (List.mem_cons_of_mem _ (List.mem_cons_of_mem _ (hBB _ (List.mem_cons_self ..))))) ⟨q3, o2, (by first | walk_at "look" | exact rfl), (by first | walk_at "look" | exact rfl), by rw [hT3.keep]; walk_at "look", by rw [hL.keep.1]; walk_at "look", (S8.less fun p hp => List.mem_cons_of_mem _ (List.mem_cons_of_mem _ (hBB p hp))).drop NZ hcI hbI (hbI _ hwb), M2.mono (Nat.le_succ _)⟩
end

theorem ln29 : True := by
  k_with "off58" => skip
  trivial
end Part21
section Part22
theorem wo22 : True := by
  w_top off
  trivial
inductive Chain (st : Int) : Int → List (Addr × Int × Int) → List Int → Int → Prop
  | nil {F : Int} : Chain st F [] [] F
  | cons {F size th L : Int} {D : Addr} {as : List (Addr × Int × Int)} {fs : List Int} (h1 : 1 ≤ size) (h2 : size ≤ 9) (r : Chain st (F + size * st) as fs L) : Chain st F ((D, size, th) :: as) ((F + size * st) :: fs) L
theorem Chain.snoc {st F L size th : Int} {D : Addr} {as : List (Addr × Int × Int)} {fs : List Int} (h : Chain st F as fs L) (h1 : 1 ≤ size) (h2 : size ≤ 9) : Chain st F (as ++ [(D, size, th)]) (fs ++ [L + size * st]) (L + size * st) := by
  induction h with
  | nil => exact .cons h1 h2 .nil
  | cons a b r ih => exact .cons a b ih
theorem Chain.le {st F L : Int} {as : List (Addr × Int × Int)} {fs : List Int} (h : Chain st F as fs L) (hs : 0 < st) : F ≤ L := by
  induction h with
  | nil => exact Int.le_refl _
  | cons a b r ih => have := Int.mul_pos (show 0 < _ by omega) hs; exact Int.le_trans (by have h9 := Int.mul_pos (show (0:Int) < _ from Int.lt_of_lt_of_le (by decide) a) hs; omega) ih
theorem Chain.len {st F L : Int} {as : List (Addr × Int × Int)} {fs : List Int} (h : Chain st F as fs L) : fs.length = as.length := by
  induction h with
  | nil => rfl
  | cons a b r ih => simp [ih]
theorem Chain.emp {st F L : Int} {fs : List Int} (h : Chain st F [] fs L) : L = F := by cases h; rfl
theorem Chain.hd {st F L : Int} {as as' : List (Addr × Int × Int)} {fs : List Int} {x : Addr × Int × Int} (h : Chain st F as fs L) (e : as = x :: as') : ∃ fs', fs = (F + x.2.1 * st) :: fs' ∧ 1 ≤ x.2.1 ∧ x.2.1 ≤ 9 ∧ Chain st (F + x.2.1 * st) as' fs' L := by
  cases h with
  | nil => cases e
  | cons a b r =>
    obtain ⟨rfl, rfl⟩ := List.cons.inj e
    exact ⟨_, rfl, a, b, r⟩
structure RowB (c : Nat) (r : Row) : Prop where
  most : r.most = 99
  moct : r.moct = 9999
  octs : r.octs ≤ 9 * c
  len : r.things.length ≤ c
structure BPut (w0 w1 st0 st1 : Int) (c : Nat) (q : WFq) (r0 r1 : Row) (L0 L1 : Int) : Prop where
  hw : (1 ≤ w0 ∧ w0 ≤ 7) ∧ 1 ≤ w1 ∧ w1 ≤ 7
  U0 : 0 < q.unit
  e0 : st0 * w0 = q.unit
  e1 : st1 * w1 = q.unit
  steps : q.steps = [st0, st1]
  rows : q.rows = [r0, r1]
  b0 : RowB c r0
  b1 : RowB c r1
  c0 : Chain st0 0 r0.things r0.fins L0
  c1 : Chain st1 0 r1.things r1.fins L1
  last : q.last = [L0, L1]
  time : q.time = 0
theorem pos_of_mul {a b U : Int} (hU : 0 < U) (hb : 1 ≤ b) (e : a * b = U) : 0 < a := by
  rcases Int.lt_or_le 0 a with h | h
  · exact h
  · have := Int.mul_nonpos_of_nonpos_of_nonneg h (show 0 ≤ b by omega); omega
theorem RowB.put {c : Nat} {r : Row} (b : RowB c r) {size : Int} (h1 : 1 ≤ size) (h2 : size ≤ 9) {D : Addr} {th F : Int} : RowB (c + 1) { r with octs := r.octs + size, things := r.things ++ [(D, size, th)], fins := r.fins ++ [F] } :=
  ⟨b.most, b.moct, by have := b.octs; show r.octs + size ≤ 9 * ((c + 1 : Nat) : Int); omega, by have := b.len; simp; omega⟩
theorem RowB.up {c : Nat} {r : Row} (b : RowB c r) : RowB (c + 1) r := ⟨b.most, b.moct, by have := b.octs; omega, by have := b.len; omega⟩
theorem bput {w0 w1 st0 st1 size thing L0 L1 : Int} {c k : Nat} {q q' : WFq} {r0 r1 : Row} (S : BPut w0 w1 st0 st1 c q r0 r1 L0 L1) (h1 : 1 ≤ size) (h2 : size ≤ 9) (h : PutQ q k size thing q') : ∃ r0' r1' L0' L1', BPut w0 w1 st0 st1 (c + 1) q' r0' r1' L0' L1' := by
  obtain ⟨r, la, D, last0, time0, hr, hc, rfl⟩ := h
  have p0 := pos_of_mul S.U0 S.hw.1.1 S.e0
  have p1 := pos_of_mul S.U0 S.hw.2.1 S.e1
  have n0 := S.c0.le p0
  have n1 := S.c1.le p1
  have base : last0 = [L0, L1] ∧ time0 = 0 := by
    rcases hc with ⟨a, rfl, rfl⟩ | ⟨a, rfl, rfl⟩
    · have hz := wait_zero.mp a
      rw [S.rows] at hz
      have z0 := hz r0 (by simp)
      have z1 := hz r1 (by simp)
      have c0 := S.c0
      have c1 := S.c1
      rw [z0] at c0
      rw [z1] at c1
      rw [c0.emp, c1.emp, S.last]
      exact ⟨rfl, rfl⟩
    · exact ⟨S.last, S.time⟩
  obtain ⟨rfl, rfl⟩ := base
  have hk : k < 2 := by have := (List.getElem?_eq_some_iff.mp hr).1; rw [S.rows] at this; exact this
  have hk' := lt2 hk
  rcases hk' with rfl | rfl
  · obtain rfl : r = r0 := by rw [S.rows] at hr; simpa using hr.symm
    have e : putF [L0, L1] 0 q.steps 0 size = L0 + size * st0 := by
      unfold putF; rw [S.steps]; simp only [List.getD_cons_zero]; rw [if_neg (by omega)]
    rw [e]
    exact ⟨_, r1, L0 + size * st0, L1, ⟨S.hw, S.U0, S.e0, S.e1, S.steps, by simp only [S.rows, List.set_cons_zero]; rfl, S.b0.put h1 h2, S.b1.up, S.c0.snoc h1 h2, S.c1, rfl, rfl⟩⟩
  · obtain rfl : r = r1 := by rw [S.rows] at hr; simpa using hr.symm
    have e : putF [L0, L1] 0 q.steps 1 size = L1 + size * st1 := by
      unfold putF; rw [S.steps]; simp only [List.getD_cons_succ, List.getD_cons_zero]; rw [if_neg (by omega)]
    rw [e]
    exact ⟨r0, _, L0, L1 + size * st1, ⟨S.hw, S.U0, S.e0, S.e1, S.steps, by simp only [S.rows, List.set_cons_succ, List.set_cons_zero]; rfl, S.b0.up, S.b1.put h1 h2, S.c0, S.c1.snoc h1 h2, rfl, rfl⟩⟩
structure BTake (w0 w1 st0 st1 s0 s1 : Int) (c : Nat) (q : WFq) (r0 r1 : Row) (L0 L1 : Int) : Prop where
  hw : (1 ≤ w0 ∧ w0 ≤ 7) ∧ 1 ≤ w1 ∧ w1 ≤ 7
  U0 : 0 < q.unit
  e0 : st0 * w0 = q.unit
  e1 : st1 * w1 = q.unit
  rows : q.rows = [r0, r1]
  l0 : r0.things.length ≤ c
  l1 : r1.things.length ≤ c
  c0 : Chain st0 (s0 * st0) r0.things r0.fins L0
  c1 : Chain st1 (s1 * st1) r1.things r1.fins L1
  a0 : s0 * st0 ≤ s1 * st1 + 9 * st1
  a1 : s1 * st1 ≤ s0 * st0 + 9 * st0
  z0 : 0 ≤ s0 ∧ s0 ≤ 1000 + 9 * (1000 - (r0.things.length : Int) - (r1.things.length : Int))
  z1 : 0 ≤ s1 ∧ s1 ≤ 1000 + 9 * (1000 - (r0.things.length : Int) - (r1.things.length : Int))
theorem BPut.take {w0 w1 st0 st1 L0 L1 : Int} {c : Nat} {q : WFq} {r0 r1 : Row} (S : BPut w0 w1 st0 st1 c q r0 r1 L0 L1) (hc : c ≤ 30) : BTake w0 w1 st0 st1 0 0 c q r0 r1 L0 L1 := by
  have p0 := pos_of_mul S.U0 S.hw.1.1 S.e0
  have p1 := pos_of_mul S.U0 S.hw.2.1 S.e1
  have h0 := S.b0.len
  have h1 := S.b1.len
  exact ⟨S.hw, S.U0, S.e0, S.e1, S.rows, S.b0.len, S.b1.len, by rw [Int.zero_mul]; exact S.c0, by rw [Int.zero_mul]; exact S.c1, by omega, by omega, by omega, by omega⟩
theorem btake {w0 w1 st0 st1 s0 s1 size thing L0 L1 : Int} {c k : Nat} {q q' : WFq} {r0 r1 : Row} (S : BTake w0 w1 st0 st1 s0 s1 c q r0 r1 L0 L1) (h0 : r0.things ≠ []) (h1 : r1.things ≠ []) (hb : Best q none k) (h : TakeQ q k size thing q') :
    (k = 0 ∧ ∃ r0', BTake w0 w1 st0 st1 (s0 + size) s1 c q' r0' r1 L0 L1 ∧ r0'.things.length + 1 = r0.things.length) ∨ (k = 1 ∧ ∃ r1', BTake w0 w1 st0 st1 s0 (s1 + size) c q' r0 r1' L0 L1 ∧ r1'.things.length + 1 = r1.things.length) := by
  obtain ⟨r, D, restT, f, restF, hr, ht, hf, rfl⟩ := h
  have p0 := pos_of_mul S.U0 S.hw.1.1 S.e0
  have p1 := pos_of_mul S.U0 S.hw.2.1 S.e1
  obtain ⟨x0, t0, et0⟩ : ∃ x t, r0.things = x :: t := List.exists_cons_of_ne_nil h0
  obtain ⟨x1, t1, et1⟩ : ∃ x t, r1.things = x :: t := List.exists_cons_of_ne_nil h1
  refine gl fun G9 hG9 => ?_
  obtain ⟨g0, eg0, za0, zb0, ch0⟩ := S.c0.hd et0
  refine hG9 ?_
  clear hG9 G9
  refine gl fun G9 hG9 => ?_
  obtain ⟨g1, eg1, za1, zb1, ch1⟩ := S.c1.hd et1
  refine hG9 ?_
  clear hG9 G9
  have q0 : q.rows[0]? = some r0 := by rw [S.rows]; rfl
  have q1 : q.rows[1]? = some r1 := by rw [S.rows]; rfl
  have m0 : 0 ∈ cands q none := List.mem_filter.mpr ⟨List.mem_range.mpr (by rw [S.rows]; exact Nat.zero_lt_succ _), by simp [goQ, q0, goB, et0]⟩
  have m1 : 1 ∈ cands q none := List.mem_filter.mpr ⟨List.mem_range.mpr (by rw [S.rows]; exact Nat.le_refl 2), by simp [goQ, q1, goB, et1]⟩
  have f0 : headF q 0 = s0 * st0 + x0.2.1 * st0 := by simp only [headF, q0, eg0]; rfl
  have f1 : headF q 1 = s1 * st1 + x1.2.1 * st1 := by simp only [headF, q1, eg1]; rfl
  have y0 : x0.2.1 * st0 ≤ 9 * st0 := Int.mul_le_mul_of_nonneg_right zb0 (by omega)
  have y1 : x1.2.1 * st1 ≤ 9 * st1 := Int.mul_le_mul_of_nonneg_right zb1 (by omega)
  have w0' : 0 < x0.2.1 * st0 := Int.mul_pos (by omega) p0
  have w1' : 0 < x1.2.1 * st1 := Int.mul_pos (by omega) p1
  have A0 := S.a0
  have A1 := S.a1
  have Z0 := S.z0
  have Z1 := S.z1
  have l0 := S.l0
  have l1 := S.l1
  rw [et0] at Z0 Z1 l0
  rw [et1] at Z0 Z1 l1
  simp only [List.length_cons] at Z0 Z1 l0 l1
  have hk : k < 2 := by have := (List.getElem?_eq_some_iff.mp hr).1; rw [S.rows] at this; exact this
  have hk' := lt2 hk
  rcases hk' with rfl | rfl
  · have b := hb.2 1 m1
    rw [f0, f1] at b
    obtain rfl : r = r0 := by rw [q0] at hr; exact (Option.some.inj hr).symm
    rw [et0] at ht
    obtain ⟨rfl, rfl⟩ := List.cons.inj ht
    rw [eg0] at hf
    obtain ⟨rfl, rfl⟩ := List.cons.inj hf
    refine .inl ⟨rfl, { r with octs := r.octs - size, things := t0, fins := g0 }, ⟨S.hw, S.U0, S.e0, S.e1, by simp only [S.rows, List.set_cons_zero], ?_, S.l1, ?_, S.c1, ?_, ?_, ?_, ?_⟩, by rw [et0]; rfl⟩
    · show t0.length ≤ c; omega
    · rw [Int.add_mul]; exact ch0
    · rw [Int.add_mul]; dsimp only at f0 y0 w0' b; omega
    · rw [Int.add_mul]; dsimp only at w0'; omega
    · rw [et1]; simp only [List.length_cons]; dsimp only at za0 zb0; constructor <;> omega
    · rw [et1]; simp only [List.length_cons]; dsimp only at za0 zb0; constructor <;> omega
  · have b := hb.2 0 m0
    rw [f0, f1] at b
    obtain rfl : r = r1 := by rw [q1] at hr; exact (Option.some.inj hr).symm
    rw [et1] at ht
    obtain ⟨rfl, rfl⟩ := List.cons.inj ht
    rw [eg1] at hf
    obtain ⟨rfl, rfl⟩ := List.cons.inj hf
    refine .inr ⟨rfl, { r with octs := r.octs - size, things := t1, fins := g1 }, ⟨S.hw, S.U0, S.e0, S.e1, by simp only [S.rows, List.set_cons_succ, List.set_cons_zero], S.l0, ?_, S.c0, ?_, ?_, ?_, ?_, ?_⟩, by rw [et1]; rfl⟩
    · show t1.length ≤ c; omega
    · rw [Int.add_mul]; exact ch1
    · rw [Int.add_mul]; dsimp only at w1'; omega
    · rw [Int.add_mul]; dsimp only at f1 y1 w1' b; omega
    · rw [et0]; simp only [List.length_cons]; dsimp only at za1 zb1; constructor <;> omega
    · rw [et0]; simp only [List.length_cons]; dsimp only at za1 zb1; constructor <;> omega
theorem scale {a b U x y w v : Int} (hU : 0 < U) (e1 : a * w = U) (e2 : b * v = U) (hw : 0 < w) (hv : 0 < v) (h : x * a ≤ y * b) : x * v ≤ y * w := by
  have hp : 0 < w * v := Int.mul_pos hw hv
  have h1 := Int.mul_le_mul_of_nonneg_right h (Int.le_of_lt hp)
  have a1 : x * a * (w * v) = U * (x * v) := by rw [← e1]; ac_rfl
  have a2 : y * b * (w * v) = U * (y * w) := by rw [← e2]; ac_rfl
  rw [a1, a2] at h1
  exact Int.le_of_mul_le_mul_left h1 hU
theorem BTake.gap {w0 w1 st0 st1 s0 s1 L0 L1 : Int} {c : Nat} {q : WFq} {r0 r1 : Row} (S : BTake w0 w1 st0 st1 s0 s1 c q r0 r1 L0 L1) : s0 * w1 - s1 * w0 ≤ 9 * w0 ∧ s1 * w0 - s0 * w1 ≤ 9 * w1 := by
  have h1 := scale (x := s0) (y := s1 + 9) S.U0 S.e0 S.e1 (by have := S.hw; omega) (by have := S.hw; omega) (by rw [Int.add_mul]; exact S.a0)
  have h2 := scale (x := s1) (y := s0 + 9) S.U0 S.e1 S.e0 (by have := S.hw; omega) (by have := S.hw; omega) (by rw [Int.add_mul]; exact S.a1)
  rw [Int.add_mul] at h1 h2
  constructor <;> omega
theorem argBest_lt (f : Nat → Int) : ∀ n j, j ≤ n → f (argBest (fun i j => decide (f i < f j)) n) ≤ f j
  | 0, j, h => by
    obtain rfl : j = 0 := by omega
    exact Int.le_refl _
  | n + 1, j, h => by
    simp only [argBest]
    by_cases hb : f (n + 1) < f (argBest (fun i j => decide (f i < f j)) n)
    · rw [if_pos (by simpa using hb)]
      by_cases e : j = n + 1
      · subst e; exact Int.le_refl _
      · exact Int.le_trans (Int.le_of_lt hb) (argBest_lt f n j (by omega))
    · rw [if_neg (by simpa using hb)]
      by_cases e : j = n + 1
      · subst e; omega
      · exact argBest_lt f n j (by omega)
theorem argBest_gt (f : Nat → Int) : ∀ n j, j ≤ n → f j ≤ f (argBest (fun i j => decide (f i > f j)) n)
  | 0, j, h => by
    obtain rfl : j = 0 := by omega
    exact Int.le_refl _
  | n + 1, j, h => by
    simp only [argBest]
    by_cases hb : f (n + 1) > f (argBest (fun i j => decide (f i > f j)) n)
    · rw [if_pos (by simpa using hb)]
      by_cases e : j = n + 1
      · subst e; exact Int.le_refl _
      · exact Int.le_trans (argBest_gt f n j (by omega)) (Int.le_of_lt hb)
    · rw [if_neg (by simpa using hb)]
      by_cases e : j = n + 1
      · subst e; omega
      · exact argBest_gt f n j (by omega)
theorem numAt_get {xs : List (Int × Tok)} {j : Nat} {p : Int × Tok} (h : xs[j]? = some p) : numAt xs.toArray j = p.1 := by
  have : xs.toArray[j]? = some p := by simpa using h
  unfold numAt; rw [this]; rfl
theorem my_min2 {prog : Program} {w : World} {A : Around} {E : Value → Shared → Prop} {s : Shared} {h₀ : Heap} {L l : Addr} {m : Str → Option Value} {news : List (Addr × Obj)} {vs : List Value} {ns : List Int} {c : Nat} {Q : Value → Shared → Prop}
    (hh : A.handled = none) (F : Fr h₀ L s.heap m) (N : News h₀ L s.heap news) (hm : (l, listOf vs.toArray c) ∈ news) (hi : IntsAre vs ns) (hne : 0 < vs.length)
    (h : ∀ x t h' tk, x ∈ ns → (∀ y ∈ ns, x ≤ y) → Fr h₀ L h' m → News h₀ L h' news → Q (.int x t) { s with heap := h', toks := tk }) : wpAny (model prog w) A (call (.builtin "min") [.ref l]) Q E s := by
  obtain ⟨xs, rfl, rfl⟩ := ints_pairs hi
  have hl : s.heap.IsList l (intItems xs.toArray) := by
    have := PySem.IsL.isList (n := c) (N _ hm).1
    simpa [intItems] using this
  refine min_intList hh hl (by simpa using hne) fun v h' tk hv hk => ?_
  obtain ⟨t, rfl⟩ := intItems_at hv
  have hle := argBest_lt (numAt xs.toArray) (xs.toArray.size - 1)
  generalize argBest (fun i j => decide (numAt xs.toArray i < numAt xs.toArray j)) (xs.toArray.size - 1) = k at hv hle ⊢
  have hv2 : (xs.toArray[k]?).map (fun p => Value.int p.1 p.2) = some (Value.int (numAt xs.toArray k) t) := by rw [← Array.getElem?_map]; exact hv
  refine h _ t h' tk ?_ (fun y hy => ?_) (F.keeps hk) (N.grown hk)
  · cases e : xs.toArray[k]? with
    | none => rw [e] at hv2; cases hv2
    | some p =>
      have : numAt xs.toArray k = p.1 := by unfold numAt; rw [e]; rfl
      rw [this]
      exact List.mem_map.mpr ⟨p, List.mem_toArray.mp (Array.mem_of_getElem? e), rfl⟩
  · obtain ⟨p, hp, rfl⟩ := List.mem_map.mp hy
    obtain ⟨j, hj, rfl⟩ := List.getElem_of_mem hp
    have := hle j (by simp; omega)
    rw [numAt_get (List.getElem?_eq_getElem hj)] at this
    exact this
theorem my_max2 {prog : Program} {w : World} {A : Around} {E : Value → Shared → Prop} {s : Shared} {h₀ : Heap} {L l : Addr} {m : Str → Option Value} {news : List (Addr × Obj)} {vs : List Value} {ns : List Int} {c : Nat} {Q : Value → Shared → Prop}
    (hh : A.handled = none) (F : Fr h₀ L s.heap m) (N : News h₀ L s.heap news) (hm : (l, listOf vs.toArray c) ∈ news) (hi : IntsAre vs ns) (hne : 0 < vs.length)
    (h : ∀ x t h' tk, x ∈ ns → (∀ y ∈ ns, y ≤ x) → Fr h₀ L h' m → News h₀ L h' news → Q (.int x t) { s with heap := h', toks := tk }) : wpAny (model prog w) A (call (.builtin "max") [.ref l]) Q E s := by
  obtain ⟨xs, rfl, rfl⟩ := ints_pairs hi
  have hl : s.heap.IsList l (intItems xs.toArray) := by
    have := PySem.IsL.isList (n := c) (N _ hm).1
    simpa [intItems] using this
  refine max_intList hh hl (by simpa using hne) fun v h' tk hv hk => ?_
  obtain ⟨t, rfl⟩ := intItems_at hv
  have hle := argBest_gt (numAt xs.toArray) (xs.toArray.size - 1)
  generalize argBest _ (xs.toArray.size - 1) = k at hv hle ⊢
  have hv2 : (xs.toArray[k]?).map (fun p => Value.int p.1 p.2) = some (Value.int (numAt xs.toArray k) t) := by rw [← Array.getElem?_map]; exact hv
  refine h _ t h' tk ?_ (fun y hy => ?_) (F.keeps hk) (N.grown hk)
  · cases e : xs.toArray[k]? with
    | none => rw [e] at hv2; cases hv2
    | some p =>
      have : numAt xs.toArray k = p.1 := by unfold numAt; rw [e]; rfl
      rw [this]
      exact List.mem_map.mpr ⟨p, List.mem_toArray.mp (Array.mem_of_getElem? e), rfl⟩
  · obtain ⟨p, hp, rfl⟩ := List.mem_map.mp hy
    obtain ⟨j, hj, rfl⟩ := List.getElem_of_mem hp
    have := hle j (by simp; omega)
    rw [numAt_get (List.getElem?_eq_getElem hj)] at this
    exact this
/-- a queue of queues in a ledger, with places of other objects that may turn -/
structure Qst (w : World) (base : List (Addr × Obj)) (ex : List Addr) (news : List (Addr × Obj)) (q : WFq) : Prop where
  qi : WFIn w news q
  nq : (adrQ q).Nodup
  bk : ∀ p ∈ base, p ∈ news
  bq : ∀ p ∈ base, p.1 ∉ adrQ q
  be : ∀ p ∈ base, p.1 ∉ ex
  qe : ∀ a ∈ ex, a ∉ adrQ q
  he : NoTup ex news
section
variable {w : World} {base base' news news' : List (Addr × Obj)} {ex : List Addr} {q q' : WFq} {h₀ h : Heap} {L : Addr}
theorem Qst.step (S : Qst w base ex news q) (N : News h₀ L h news) {bad : List Addr} (hb : ∀ a ∈ bad, a ∈ ex) (he : ∀ a ∈ bad, ∃ o : Obj, (a, o) ∈ news' ∧ o.cls ≠ .type "tuple") (hk : Keeps bad news news') : Qst w base ex news' q :=
  { S with
    qi := S.qi.keeps N (fun a ha => S.he a (hb a ha)) (fun a ha e => S.qe a (hb a e) ha) hk
    bk := fun p hp => hk _ (S.bk p hp) (fun e => S.be p hp (hb _ e))
    he := fun a ha => by
      by_cases hm : a ∈ bad
      · exact he a hm
      · obtain ⟨o, h1, h2⟩ := S.he a ha
        exact ⟨o, hk _ h1 hm, h2⟩ }
theorem Qst.more (S : Qst w base ex news q) (hk : ∀ p ∈ news, p ∈ news') : Qst w base ex news' q :=
  { S with
    qi := S.qi.mono hk
    bk := fun p hp => hk _ (S.bk p hp)
    he := fun a ha => by obtain ⟨o, h1, h2⟩ := S.he a ha; exact ⟨o, hk _ h1, h2⟩ }
theorem Qst.up {x : Addr × Obj} (S : Qst w base ex news q) (_ : News h₀ L h (x :: news)) : Qst w base ex (x :: news) q := S.more fun p hp => List.mem_cons_of_mem _ hp
theorem Qst.qstep (S : Qst w base ex news q) (hq : WFIn w news' q') (hn : (adrQ q').Nodup) (hf : ∀ a ∈ adrQ q', a ∈ adrQ q ∨ ∀ p ∈ news, @Ne Nat p.1 a) (hk : Keeps (adrQ q) news news') : Qst w base ex news' q' :=
  { S with
    qi := hq
    nq := hn
    bk := fun p hp => hk _ (S.bk p hp) (S.bq p hp)
    bq := fun p hp hm => by
      rcases hf _ hm with h1 | h1
      · exact S.bq p hp h1
      · exact h1 _ (S.bk p hp) rfl
    qe := fun a ha hm => by
      rcases hf _ hm with h1 | h1
      · exact S.qe a ha h1
      · obtain ⟨o, h2, _⟩ := S.he a ha
        exact h1 _ h2 rfl
    he := fun a ha => by
      obtain ⟨o, h2, h3⟩ := S.he a ha
      exact ⟨o, hk _ h2 (S.qe a ha), h3⟩ }
theorem Qst.iter (S : Qst w base ex news q) {I : Addr} {oI : Obj} (hI : ∀ p ∈ news, @Ne Nat p.1 I) : Qst w ((I, oI) :: base) ex ((I, oI) :: news) q :=
  have S' := S.more (news' := (I, oI) :: news) fun p hp => List.mem_cons_of_mem _ hp
  { S' with
    bk := fun p hp => by
      rcases List.mem_cons.mp hp with rfl | hp
      · exact List.mem_cons_self ..
      · exact List.mem_cons_of_mem _ (S.bk p hp)
    bq := fun p hp hm => by
      rcases List.mem_cons.mp hp with rfl | hp
      · obtain ⟨ob, h2, _⟩ := S.qi.noTup _ hm
        exact hI _ h2 rfl
      · exact S.bq p hp hm
    be := fun p hp hm => by
      rcases List.mem_cons.mp hp with rfl | hp
      · obtain ⟨ob, h2, _⟩ := S.he _ hm
        exact hI _ h2 rfl
      · exact S.be p hp hm }
theorem Qst.addT (S : Qst w base ex news q) (N : News h₀ L h news) {T : Addr} {vs : List Value} {n : Nat} (hT : (T, tupO vs n) ∈ news) : Qst w ((T, tupO vs n) :: base) ex news q :=
  { S with
    bk := fun p hp => by
      rcases List.mem_cons.mp hp with rfl | hp
      · exact hT
      · exact S.bk p hp
    bq := fun p hp => by
      rcases List.mem_cons.mp hp with rfl | hp
      · exact S.qi.noTup.tup N hT
      · exact S.bq p hp
    be := fun p hp => by
      rcases List.mem_cons.mp hp with rfl | hp
      · exact S.he.tup N hT
      · exact S.be p hp }
theorem Qst.less (S : Qst w base ex news q) (hb : ∀ p ∈ base', p ∈ base) : Qst w base' ex news q :=
  { S with
    bk := fun p hp => S.bk p (hb p hp)
    bq := fun p hp => S.bq p (hb p hp)
    be := fun p hp => S.be p (hb p hp) }
theorem Qst.drop {I : Addr} {oI : Obj} (S : Qst w ((I, oI) :: base) ex news q) (N : News h₀ L h news) (hc : oI.cls = .type "range_iterator") (hb : ∀ p ∈ base, @Ne Nat p.1 I) : Qst w base ex (news.filter fun p => decide (p.1 ≠ I)) q :=
  have nt : NoTup [I] news := fun a ha => ⟨oI, by rw [List.mem_singleton.mp ha]; exact S.bk _ (List.mem_cons_self ..), by rw [hc]; simp⟩
  have hk : Keeps [I] news (news.filter fun p => decide (p.1 ≠ I)) := fun p hp hn => List.mem_filter.mpr ⟨hp, by simpa using hn⟩
  have nQ : I ∉ adrQ q := S.bq (I, oI) (List.mem_cons_self ..)
  have nE : I ∉ ex := S.be (I, oI) (List.mem_cons_self ..)
  { S with
    qi := S.qi.keeps N nt (fun a ha e => nQ (List.mem_singleton.mp e ▸ ha)) hk
    bk := fun p hp => List.mem_filter.mpr ⟨S.bk p (List.mem_cons_of_mem _ hp), by simpa using hb p hp⟩
    bq := fun p hp => S.bq p (List.mem_cons_of_mem _ hp)
    be := fun p hp => S.be p (List.mem_cons_of_mem _ hp)
    he := fun a ha => by
      obtain ⟨o, h1, h2⟩ := S.he a ha
      exact ⟨o, hk _ h1 (fun e => nE (List.mem_singleton.mp e ▸ ha)), h2⟩ }
end
theorem Qst.toEx {w : World} {base base' news : List (Addr × Obj)} {ex : List Addr} {q : WFq} {a : Addr} {o : Obj} (S : Qst w base ex news q) (ha : (a, o) ∈ base) (hc : o.cls ≠ .type "tuple") (hb : ∀ p ∈ base', p ∈ base ∧ @Ne Nat p.1 a) : Qst w base' (a :: ex) news q :=
  { S with
    bk := fun p hp => S.bk p (hb p hp).1
    bq := fun p hp => S.bq p (hb p hp).1
    be := fun p hp hm => by
      rcases List.mem_cons.mp hm with e | hm
      · exact (hb p hp).2 e
      · exact S.be p (hb p hp).1 hm
    qe := fun b hb' => by
      rcases List.mem_cons.mp hb' with rfl | h
      · exact S.bq _ ha
      · exact S.qe b h
    he := fun b hb' => by
      rcases List.mem_cons.mp hb' with rfl | h
      · exact ⟨o, S.bk _ ha, hc⟩
      · exact S.he b h }
theorem Qst.src {prog : Program} {w : World} {base news news' : List (Addr × Obj)} {ex : List Addr} {q : WFq} {src : Addr} {h₀ h : Heap} {L : Addr} (S : Qst w base ex news q) (N : News h₀ L h news) (hx : src ∈ ex) (hs : SrcIn prog w news' src) (hk : Keeps [src] news news') : Qst w base ex news' q :=
  S.step N (fun a ha => by rw [List.mem_singleton.mp ha]; exact hx) hs.noTup hk
/-- the end of a turn that turns nothing of the ledger -/
theorem my_end2 {h₀ : Heap} {J : (Str → Option Value) → List (Addr × Obj) → Prop} {L I : Addr} {oI : Obj} {m' : Str → Option Value} {nx news' : List (Addr × Obj)} {s₁ : Shared} {h' : Heap} {tk : Nat} (F : Fr h₀ L h' m') (N : News h₀ L h' news') (hI : (I, oI) ∈ news') (hs : ∀ p ∈ nx, p ∈ news') (hne : ∀ p ∈ nx, @Ne Nat p.1 I) (hj : J m' nx) : InvEndG h₀ L J [(I, oI)] s₁ { s₁ with heap := h', toks := tk } :=
  ⟨h', tk, m', news', nx, rfl, F, N, hs, fun p hp => by rw [List.mem_singleton.mp hp]; exact hI, fun p hp b hb e => by
    obtain ⟨q, hq, rfl⟩ := List.mem_map.mp hb
    rw [List.mem_singleton.mp hp] at e
    exact hne q hq e.symm, hj⟩
theorem sm_mid {a : Int} (h : a.natAbs < 1048576) : Sm a := Nat.le_trans (bits_small (m := 20) h) (by decide)
theorem BPut.facts {w0 w1 st0 st1 L0 L1 : Int} {c : Nat} {q : WFq} {r0 r1 : Row} (S : BPut w0 w1 st0 st1 c q r0 r1 L0 L1) (hc : c ≤ 30) : q.rows.length < 100 ∧ q.last.length = q.rows.length ∧ q.steps.length = q.rows.length ∧ ∀ size : Int, size ≤ 64 → ∀ r ∈ q.rows, r.things.length < 99 ∧ r.fins.length = r.things.length ∧ (r.things.length : Int) < r.most ∧ r.octs + size ≤ r.moct := by
  refine ⟨by rw [S.rows]; exact Nat.le_of_ble_eq_true rfl, by rw [S.rows, S.last]; rfl, by rw [S.rows, S.steps]; rfl, fun size hs r hr => ?_⟩
  have hb : RowB c r ∧ r.fins.length = r.things.length := by
    rw [S.rows] at hr
    simp only [List.mem_cons, List.not_mem_nil, or_false] at hr
    rcases hr with rfl | rfl
    · exact ⟨S.b0, S.c0.len⟩
    · exact ⟨S.b1, S.c1.len⟩
  have h1 := hb.1.len
  have h2 := hb.1.octs
  exact ⟨by omega, hb.2, by rw [hb.1.most]; omega, by rw [hb.1.moct]; omega⟩
theorem BTake.facts {w0 w1 st0 st1 s0 s1 L0 L1 : Int} {c : Nat} {q : WFq} {r0 r1 : Row} (S : BTake w0 w1 st0 st1 s0 s1 c q r0 r1 L0 L1) (hc : c ≤ 30) : q.rows.length < 100 ∧ ∀ r ∈ q.rows, r.things.length < 1000 ∧ r.fins.length = r.things.length := by
  refine ⟨by rw [S.rows]; exact Nat.le_of_ble_eq_true rfl, fun r hr => ?_⟩
  rw [S.rows] at hr
  simp only [List.mem_cons, List.not_mem_nil, or_false] at hr
  have h1 := S.l0
  have h2 := S.l1
  rcases hr with rfl | rfl
  · exact ⟨by omega, S.c0.len⟩
  · exact ⟨by omega, S.c1.len⟩
theorem name3 {h₀ h : Heap} {L a b : Addr} {o o' : Obj} {r : List (Addr × Obj)} (_ : News h₀ L h ((a, o) :: (b, o') :: r)) : ∃ b9 : Addr, b9 = b := ⟨_, rfl⟩
theorem drop13 {h₀ h : Heap} {L a b c : Addr} {o o' o'' : Obj} {r : List (Addr × Obj)} (N : News h₀ L h ((a, o) :: (b, o') :: (c, o'') :: r)) : News h₀ L h ((b, o') :: r) := fun p hp => by
  rcases List.mem_cons.mp hp with rfl | hp
  · exact N _ (by simp)
  · exact N _ (by simp [hp])
theorem ne2 {l d : Nat} {nw : List (Addr × Obj)} (h : l < d ∧ AllLt d nw) : ∀ p ∈ nw, @Ne Nat p.1 d := fun p hp => Nat.ne_of_lt (allLt_mem h.2 p hp)
theorem BTake.cne {w0 w1 st0 st1 s0 s1 L0 L1 : Int} {c : Nat} {q : WFq} {r0 r1 : Row} (S : BTake w0 w1 st0 st1 s0 s1 c q r0 r1 L0 L1) (h : r0.things ≠ []) : cands q none ≠ [] := fun e => by
  have q0 : q.rows[0]? = some r0 := by rw [S.rows]; rfl
  have m0 : 0 ∈ cands q none := List.mem_filter.mpr ⟨List.mem_range.mpr (by rw [S.rows]; exact Nat.zero_lt_succ _), by simp [goQ, q0, goB, h]⟩
  rw [e] at m0; cases m0
/-- a take, seen at once for both queues -/
theorem btake2 {w0 w1 st0 st1 s0 s1 size thing L0 L1 : Int} {c k : Nat} {q q' : WFq} {r0 r1 : Row} {b0 b1 : Tok} (S : BTake w0 w1 st0 st1 s0 s1 c q r0 r1 L0 L1) (h0 : r0.things ≠ []) (h1 : r1.things ≠ []) (hb : Best q none k) (h : TakeQ q k size thing q') :
    k < 2 ∧ ∃ (s0' s1' sk : Int) (tk : Tok) (r0' r1' : Row) (f g : Tok → Tok), BTake w0 w1 st0 st1 s0' s1' c q' r0' r1' L0 L1 ∧ r0'.things.length + r1'.things.length + 1 = r0.things.length + r1.things.length ∧ [Value.int s0 b0, .int s1 b1][((k : Int)).toNat]? = some (.int sk tk) ∧
      ∀ t, [Value.int s0 b0, .int s1 b1].set ((k : Int)).toNat (.int (sk + size) t) = [.int s0' (f t), .int s1' (g t)] := by
  rcases btake S h0 h1 hb h with ⟨rfl, r, M, hl⟩ | ⟨rfl, r, M, hl⟩
  · exact ⟨by decide, s0 + size, s1, s0, b0, r, r1, fun t => t, fun _ => b1, M, by omega, rfl, fun t => rfl⟩
  · exact ⟨by decide, s0, s1 + size, s1, b1, r0, r, fun _ => b0, fun t => t, M, by omega, rfl, fun t => rfl⟩
theorem SrcIn.offI {prog : Program} {w : World} {news : List (Addr × Obj)} {src I : Addr} (h : SrcIn prog w news src) (hne : @Ne Nat src I) : SrcIn prog w (news.filter fun p => decide (p.1 ≠ I)) src := by
  obtain ⟨so, h1, h2⟩ := h
  exact ⟨so, List.mem_filter.mpr ⟨h1, by simpa using hne⟩, h2⟩
theorem SrcIn.up {prog : Program} {w : World} {news : List (Addr × Obj)} {src : Addr} {x : Addr × Obj} (h : SrcIn prog w news src) : SrcIn prog w (x :: news) src := by
  obtain ⟨so, h1, h2⟩ := h
  exact ⟨so, List.mem_cons_of_mem _ h1, h2⟩
theorem my_len2 {prog : Program} {w : World} {A : Around} {E : Value → Shared → Prop} {s : Shared} {h₀ : Heap} {L l : Addr} {news : List (Addr × Obj)} {x y : Value} {c : Nat} {Q : Value → Shared → Prop} (N : News h₀ L s.heap news) (hm : (l, listOf [x, y].toArray c) ∈ news)
    (h : Q (.int 2 (s.toks + 1)) { s with toks := s.toks + 1 + 1 }) : wpAny (model prog w) A (call (.builtin "len") [.ref l]) Q E s := my_len N hm (by show 2 < 2 ^ 62; decide) h
theorem name2 {h₀ h : Heap} {L sl : Addr} {a b : Int} {x y : Tok} {c : Nat} {r : List (Addr × Obj)} (N : News h₀ L h ((sl, listOf [Value.int a x, .int b y].toArray c) :: r)) : ∃ x9 y9 : Tok, News h₀ L h ((sl, listOf [Value.int a x9, .int b y9].toArray c) :: r) := ⟨_, _, N⟩
noncomputable def shareF (low high most lev : Int) : Int := if lev ≤ low then 0 else if lev ≥ high then 10000 else (most * (lev - low)).fdiv (high - low)
section
variable {prog : Program} {w : World} {p : Program} {loose : List Str} {mean : ExcName → Option Value} {mg mb : Str → Option Value}
    {dp un : Nat} {gd : Option (List Code)} {cn : Str} {cs : Scope} {a : Addr} {ccd : Value} {cl : List (Str × Addr)} {outer : List Env} {A₀ : Around} {base h₀ : Heap} {L : Addr} {m : Str → Option Value} {s : Shared} {Q E : Value → Shared → Prop}
    {news : List (Addr × Obj)}
set_option maxHeartbeats 4000000 in
theorem avg_new {sh : Int} {tsh : Tok}
    (B : Below A₀ base outer h₀) (F : Fr h₀ L s.heap m) (X : (hK w.params).In h₀) (T : Top p loose mean mg mb h₀) (hk : cs.kind = .function) (N : News h₀ L s.heap news) (hdp : dp + 20 < recursionLimit) (hun : un + 200 < cLine)
    (ret : ∀ x d k1 k2 t2 h' tk', Fr h₀ L h' m → News h₀ L h' ((x, instObj 193 d) :: (d, dictOf [ent w "shift" k1 (.int sh tsh), ent w "parts" k2 (.int 0 t2)] 2) :: news) → (∀ p ∈ news, @LT.lt Nat _ p.1 d) → @LT.lt Nat _ d x → Q (.ref x) { s with heap := h', toks := tk' }) :
    wpAny (model prog w) (ktrTop dp un gd cn cs L a ccd cl outer) (call (.ref 193) [.int sh tsh]) Q E s := by
  have kf : (fun (_ : OpenLaw) (_ : Params → Frag) => True) PySem.Challenge.rw_pc0369_01 hK := by k_fill; trivial
  clear kf
  have hb9 : Base s := ⟨⟩
  k_dflt (refine' call_cls ?k1 ?k2 ?k3 ?k4 ?k5 ?k6 ?_; (case k1 => k_asm); (case k2 => k_asm); (case k3 => k_asm); (case k4 => k_is); (case k5 => k_is); (case k6 => k_is); k_whole)
  intro x dx h1 F1 N1 l1 l2
  k_lt2 l2
  have l1' := l1
  (try k_lt l1)
  k_dflt (refine' code_def ?k1 ?k2 ?k3 ?k4 ?k5 ?kA ?kF ?kK ?k6 ?k7 ?k8 ?k9 ?kB ?_ ?c2 ?c3 ?c4 ?c5; (case kA => exact rfl); (case kF => exact rfl); (case kK => assumption); (case k1 => k_asm); (case k2 => k_asm); (case k3 => k_asm); (case k4 => k_asm); (case k5 => k_asm); (case k6 => k_is); (case k7 => k_is); (case k8 => k_room); (case k9 => first | exact BindsTo.of_eq rfl | exact binds_K (by k_in) rfl (by k_is) rfl rfl rfl); (case c5 => decide); (case kB => exact locs rfl); (case c2 => exact rfl); (case c3 => exact rfl); (case c4 => exact rfl); k_whole)
  intro g1 L1 h1 FG1 F1 N1 B1 X1 T1
  (try dsimp only); (try k_lift B1); (try k_fold)
  replace F1 := fr_open F1
  obtain ⟨m1, F1, em1⟩ := F1
  k_steps
  rename News h₀ L _ _ => NZ
  exact ret _ _ _ _ _ _ _ (by k_asm) NZ l1' l2
set_option maxHeartbeats 4000000 in
theorem curve_new {low high mo : Int} {tl th tm : Tok}
    (B : Below A₀ base outer h₀) (F : Fr h₀ L s.heap m) (X : (hK w.params).In h₀) (T : Top p loose mean mg mb h₀) (hk : cs.kind = .function) (N : News h₀ L s.heap news) (b0 : 0 ≤ low) (b1 : low < high) (b2 : 0 ≤ mo) (b3 : mo ≤ 10000) (hdp : dp + 20 < recursionLimit) (hun : un + 200 < cLine)
    (ret : ∀ x d k1 k2 k3 h' tk', Fr h₀ L h' m → News h₀ L h' ((x, instObj 228 d) :: (d, dictOf [ent w "low" k1 (.int low tl), ent w "high" k2 (.int high th), ent w "most" k3 (.int mo tm)] 3) :: news) → (∀ p ∈ news, @LT.lt Nat _ p.1 d) → @LT.lt Nat _ d x → Q (.ref x) { s with heap := h', toks := tk' }) :
    wpAny (model prog w) (ktrTop dp un gd cn cs L a ccd cl outer) (call (.ref 228) [.int low tl, .int high th, .int mo tm]) Q E s := by
  have kf : (fun (_ : OpenLaw) (_ : Params → Frag) => True) PySem.Challenge.rw_pc0369_01 hK := by k_fill; trivial
  clear kf
  have hb9 : Base s := ⟨⟩
  k_dflt (refine' call_cls ?k1 ?k2 ?k3 ?k4 ?k5 ?k6 ?_; (case k1 => k_asm); (case k2 => k_asm); (case k3 => k_asm); (case k4 => k_is); (case k5 => k_is); (case k6 => k_is); k_whole)
  intro x dx h1 F1 N1 l1 l2
  k_lt2 l2
  have l1' := l1
  (try k_lt l1)
  k_dflt (refine' code_def ?k1 ?k2 ?k3 ?k4 ?k5 ?kA ?kF ?kK ?k6 ?k7 ?k8 ?k9 ?kB ?_ ?c2 ?c3 ?c4 ?c5; (case kA => exact rfl); (case kF => exact rfl); (case kK => assumption); (case k1 => k_asm); (case k2 => k_asm); (case k3 => k_asm); (case k4 => k_asm); (case k5 => k_asm); (case k6 => k_is); (case k7 => k_is); (case k8 => k_room); (case k9 => first | exact BindsTo.of_eq rfl | exact binds_K (by k_in) rfl (by k_is) rfl rfl rfl); (case c5 => decide); (case kB => exact locs rfl); (case c2 => exact rfl); (case c3 => exact rfl); (case c4 => exact rfl); k_whole)
  intro g1 L1 h1 FG1 F1 N1 B1 X1 T1
  (try dsimp only); (try k_lift B1); (try k_fold)
  replace F1 := fr_open F1
  obtain ⟨m1, F1, em1⟩ := F1
  k_steps
  rename News h₀ L _ _ => NZ
  exact ret _ _ _ _ _ _ _ (by k_asm) NZ l1' l2
set_option maxHeartbeats 4000000 in
theorem share_c {x d : Addr} {low high mo lev : Int} {k1 k2 k3 tl th tm tv : Tok}
    (B : Below A₀ base outer h₀) (F : Fr h₀ L s.heap m) (X : (hK w.params).In h₀) (T : Top p loose mean mg mb h₀) (hk : cs.kind = .function) (N : News h₀ L s.heap news) (hx : (x, instObj 228 d) ∈ news) (hd : (d, dictOf [ent w "low" k1 (.int low tl), ent w "high" k2 (.int high th), ent w "most" k3 (.int mo tm)] 3) ∈ news)
    (b0 : 0 ≤ low) (b1 : low < high) (b2 : 0 ≤ mo) (b3 : mo ≤ 10000) (b4 : high < 100) (hdp : dp + 20 < recursionLimit) (hun : un + 200 < cLine)
    (ret : ∀ t h' tk', Fr h₀ L h' m → News h₀ L h' news → Q (.int (shareF low high mo lev) t) { s with heap := h', toks := tk' }) :
    wpAny (model prog w) (ktrTop dp un gd cn cs L a ccd cl outer) (call (.ref 218) [.ref x, .int lev tv]) Q E s := by
  have kf : (fun (_ : OpenLaw) (_ : Params → Frag) => True) PySem.Challenge.rw_pc0369_01 hK := by k_fill; trivial
  clear kf
  have hb9 : Base s := ⟨⟩
  refine wpAny_call ?_
  k_dflt (refine' code_def ?k1 ?k2 ?k3 ?k4 ?k5 ?kA ?kF ?kK ?k6 ?k7 ?k8 ?k9 ?kB ?_ ?c2 ?c3 ?c4 ?c5; (case kA => exact rfl); (case kF => exact rfl); (case kK => assumption); (case k1 => k_asm); (case k2 => k_asm); (case k3 => k_asm); (case k4 => k_asm); (case k5 => k_asm); (case k6 => k_is); (case k7 => k_is); (case k8 => k_room); (case k9 => first | exact BindsTo.of_eq rfl | exact binds_K (by k_in) rfl (by k_is) rfl rfl rfl); (case c5 => decide); (case kB => exact locs rfl); (case c2 => exact rfl); (case c3 => exact rfl); (case c4 => exact rfl); k_whole)
  intro g1 L1 h1 FG1 F1 N1 B1 X1 T1
  (try dsimp only); (try k_lift B1); (try k_fold)
  replace F1 := fr_open F1
  obtain ⟨m1, F1, em1⟩ := F1
  refine letMA ?_
  intro M9 A9
  have hdp0 : 0 < high - low := by omega
  have sm1 : Sm mo := sm_mid (by omega)
  by_cases h1 : lev ≤ low
  · have ev : shareF low high mo lev = 0 := if_pos h1
    rw [ev] at ret
    k_steps
    refine ret _ _ _ ?_ ?_ <;> k_asm
  · by_cases h2 : lev ≥ high
    · have ev : shareF low high mo lev = 10000 := by unfold shareF; rw [if_neg h1, if_pos h2]
      rw [ev] at ret
      k_steps
      refine ret _ _ _ ?_ ?_ <;> k_asm
    · have ev : shareF low high mo lev = (mo * (lev - low)).fdiv (high - low) := by unfold shareF; rw [if_neg h1, if_neg h2]
      rw [ev] at ret
      have sm2 : Sm (lev - low) := sm_mid (by omega)
      k_steps
      refine ret _ _ _ ?_ ?_ <;> k_asm
end
theorem ln30 : True := by
  k_with "my call ref" => ((fail_if_success (k_extra "off60")); (k_here; refine hold_ref [218] rfl ?_))
  trivial
section
variable {prog : Program} {w : World} {p : Program} {loose : List Str} {mean : ExcName → Option Value} {mg mb : Str → Option Value}
    {dp un : Nat} {gd : Option (List Code)} {cn : Str} {cs : Scope} {a : Addr} {ccd : Value} {cl : List (Str × Addr)} {outer : List Env} {A₀ : Around} {base h₀ : Heap} {L : Addr} {m : Str → Option Value} {s : Shared} {Q E : Value → Shared → Prop}
    {news : List (Addr × Obj)}
set_option maxHeartbeats 4000000 in
theorem drops_c {x d : Addr} {low high mo lev told : Int} {k1 k2 k3 tl th tm tv tt : Tok}
    (B : Below A₀ base outer h₀) (F : Fr h₀ L s.heap m) (X : (hK w.params).In h₀) (T : Top p loose mean mg mb h₀) (hk : cs.kind = .function) (N : News h₀ L s.heap news) (hx : (x, instObj 228 d) ∈ news) (hd : (d, dictOf [ent w "low" k1 (.int low tl), ent w "high" k2 (.int high th), ent w "most" k3 (.int mo tm)] 3) ∈ news)
    (b0 : 0 ≤ low) (b1 : low < high) (b2 : 0 ≤ mo) (b3 : mo ≤ 10000) (b4 : high < 100) (hdp : dp + 30 < recursionLimit) (hun : un + 300 < cLine)
    (ret : ∀ h' tk', Fr h₀ L h' m → News h₀ L h' news → Q (.bool (decide (told < shareF low high mo lev))) { s with heap := h', toks := tk' }) :
    wpAny (model prog w) (ktrTop dp un gd cn cs L a ccd cl outer) (call (.ref 225) [.ref x, .int lev tv, .int told tt]) Q E s := by
  have kf : (fun (_ : OpenLaw) (_ : Params → Frag) => True) PySem.Challenge.rw_pc0369_01 hK := by k_fill; trivial
  clear kf
  have hb9 : Base s := ⟨⟩
  refine wpAny_call ?_
  k_dflt (refine' code_def ?k1 ?k2 ?k3 ?k4 ?k5 ?kA ?kF ?kK ?k6 ?k7 ?k8 ?k9 ?kB ?_ ?c2 ?c3 ?c4 ?c5; (case kA => exact rfl); (case kF => exact rfl); (case kK => assumption); (case k1 => k_asm); (case k2 => k_asm); (case k3 => k_asm); (case k4 => k_asm); (case k5 => k_asm); (case k6 => k_is); (case k7 => k_is); (case k8 => k_room); (case k9 => first | exact BindsTo.of_eq rfl | exact binds_K (by k_in) rfl (by k_is) rfl rfl rfl); (case c5 => decide); (case kB => exact locs rfl); (case c2 => exact rfl); (case c3 => exact rfl); (case c4 => exact rfl); k_whole)
  intro g1 L1 h1 FG1 F1 N1 B1 X1 T1
  (try dsimp only); (try k_lift B1); (try k_fold)
  replace F1 := fr_open F1
  obtain ⟨m1, F1, em1⟩ := F1
  refine letMA ?_
  intro M9 A9
  k_steps
  refine Hold.mk ?_
  k_dflt (refine' share_c (lev := lev) ?k1 ?k2 ?k3 ?k4 ?k5 ?N ?x ?y ?a ?b ?c ?e ?f ?d ?u ?_; (case k1 => k_asm); (case k2 => k_asm); (case k3 => k_asm); (case k4 => k_asm); (case k5 => first | exact rfl | assumption); (case N => k_asm); (case x => assumption); (case y => assumption); (case a => exact b0); (case b => exact b1); (case c => exact b2); (case e => exact b3); (case f => exact b4); (case d => k_room); (case u => k_units))
  intro t9 h9 tk9 F9 N9
  (try dsimp only at N9 ⊢)
  k_steps
  refine ret _ _ ?_ ?_ <;> k_asm
set_option maxHeartbeats 4000000 in
theorem told_c {x d : Addr} {sh pa lv : Int} {k1 k2 t1 t2 tv : Tok}
    (B : Below A₀ base outer h₀) (F : Fr h₀ L s.heap m) (X : (hK w.params).In h₀) (T : Top p loose mean mg mb h₀) (hk : cs.kind = .function) (N : News h₀ L s.heap ((d, dictOf [ent w "shift" k1 (.int sh t1), ent w "parts" k2 (.int pa t2)] 2) :: news)) (hx : (x, instObj 193 d) ∈ news) (hne : ∀ p ∈ news, p.1 ≠ d)
    (b0 : 0 ≤ sh) (b1 : sh < 4) (hdp : dp + 20 < recursionLimit) (hun : un + 200 < cLine)
    (ret : ∀ t t' k' h' tk', Fr h₀ L h' m → News h₀ L h' ((d, dictOf [ent w "shift" k1 (.int sh t1), ent w "parts" k' (.int (pa + lv - pa.fdiv (2 ^ sh.toNat)) t')] 2) :: news) → Q (.int ((pa + lv - pa.fdiv (2 ^ sh.toNat)).fdiv (2 ^ sh.toNat)) t) { s with heap := h', toks := tk' }) :
    wpAny (model prog w) (ktrTop dp un gd cn cs L a ccd cl outer) (call (.ref 190) [.ref x, .int lv tv]) Q E s := by
  have kf : (fun (_ : OpenLaw) (_ : Params → Frag) => True) PySem.Challenge.rw_pc0369_01 hK := by k_fill; trivial
  clear kf
  have hb9 : Base s := ⟨⟩
  refine wpAny_call ?_
  k_dflt (refine' code_def ?k1 ?k2 ?k3 ?k4 ?k5 ?kA ?kF ?kK ?k6 ?k7 ?k8 ?k9 ?kB ?_ ?c2 ?c3 ?c4 ?c5; (case kA => exact rfl); (case kF => exact rfl); (case kK => assumption); (case k1 => k_asm); (case k2 => k_asm); (case k3 => k_asm); (case k4 => k_asm); (case k5 => k_asm); (case k6 => k_is); (case k7 => k_is); (case k8 => k_room); (case k9 => first | exact BindsTo.of_eq rfl | exact binds_K (by k_in) rfl (by k_is) rfl rfl rfl); (case c5 => decide); (case kB => exact locs rfl); (case c2 => exact rfl); (case c3 => exact rfl); (case c4 => exact rfl); k_whole)
  intro g1 L1 h1 FG1 F1 N1 B1 X1 T1
  (try dsimp only); (try k_lift B1); (try k_fold)
  replace F1 := fr_open F1
  obtain ⟨m1, F1, em1⟩ := F1
  refine letMA ?_
  intro M9 A9
  k_steps
  rename News h₀ L _ _ => NZ
  exact ret _ _ _ _ _ (by k_asm) NZ
end
theorem join_int {M : Model} {A : Around} {t : Sem Value} {K : Value → Shared → Prop} {E : Value → Shared → Prop} {s : Shared} {g h0 : Heap} {L : Addr} {m : Str → Option Value} {nw : List (Addr × Obj)} (s0 : Shared) (sf : Int) (_ : Fr g L h0 m) (_ : News g L h0 nw)
    (h1 : wpAny M A t (fun v s' => Hold (∃ t h tk, v = .int sf t ∧ s' = { s0 with heap := h, toks := tk } ∧ Fr g L h m ∧ News g L h nw)) E s)
    (h2 : ∀ t h tk, Fr g L h m → News g L h nw → K (.int sf t) { s0 with heap := h, toks := tk }) : wpAny M A t K E s :=
  wpAny_mono h1 (fun _ _ q => by obtain ⟨t, h, tk, rfl, rfl, F, N⟩ := q.out; exact h2 t h tk F N) fun _ _ x => x

theorem ln31 : True := by
  k_with "off60" => skip
  trivial
end Part22
section Part23
theorem wo23 : True := by
  w_top off
  trivial
theorem ln32 : True := by
  k_with "my call ref" => ((fail_if_success (k_extra "off64")); (k_here; refine hold_ref [165, 246, 143, 157] rfl ?_))
  k_with "my call builtin:len" => ((fail_if_success (k_extra "off64")); (k_here; k_dflt (refine' my_len2 ?N9q73 ?m9q73 ?_; (case N9q73 => k_asm); (case m9q73 => k_mem); k_whole)))
  k_with "my call builtin:min cons nil" => ((fail_if_success (k_extra "off64")); (k_here; refine Hold.out ?_))
  k_with "my setItem ref int" => ((fail_if_success (k_extra "off64")); (k_here; (refine Hold.out ?_)))
  trivial
inductive BInv (prog : Program) (w : World) (src wl sl : Addr) (tkq : Tok) (BB : List (Addr × Obj)) (w0 w1 st0 st1 : Int) (i : Nat) (m₁ : Str → Option Value) (nx : List (Addr × Obj)) : Prop
  | mk (q : WFq) (r0 : Row) (r1 : Row) (J0 : Int) (J1 : Int) (p0 : m₁ (Str.ofString "source") = some (.ref src)) (p1 : m₁ (Str.ofString "weights") = some (.ref wl)) (p2 : m₁ (Str.ofString "queues") = some (.ref q.x)) (p3 : m₁ (Str.ofString "most") = some (.int 9 tkq)) (p4 : m₁ (Str.ofString "sent") = some (.ref sl)) (p5 : Qst w BB [src] nx q) (p6 : SrcIn prog w nx src) (p7 : BPut w0 w1 st0 st1 (2 * i) q r0 r1 J0 J1) : BInv prog w src wl sl tkq BB w0 w1 st0 st1 i m₁ nx
inductive BWh (prog : Program) (w : World) (src wl sl : Addr) (tkq : Tok) (base : List (Addr × Obj)) (w0 w1 st0 st1 : Int) (s : Shared) (g1 : Heap) (L1 : Addr) (n : Nat) (s' : Shared) : Prop
  | mk (h : Heap) (tk : Nat) (m₂ : Str → Option Value) (nx : List (Addr × Obj)) (q2 : WFq) (x0 : Row) (x1 : Row) (J0 : Int) (J1 : Int) (s0 : Int) (s1 : Int) (b0 : Tok) (b1 : Tok) (cs0 : Nat) (p0 : s' = { s with heap := h, toks := tk }) (p1 : Fr g1 L1 h m₂) (p2 : News g1 L1 h nx) (p3 : m₂ (Str.ofString "source") = some (.ref src)) (p4 : m₂ (Str.ofString "weights") = some (.ref wl)) (p5 : m₂ (Str.ofString "queues") = some (.ref q2.x)) (p6 : m₂ (Str.ofString "most") = some (.int 9 tkq)) (p7 : m₂ (Str.ofString "sent") = some (.ref sl)) (p8 : Qst w base [sl, src] nx q2) (p9 : SrcIn prog w nx src) (p10 : (sl, listOf [Value.int s0 b0, .int s1 b1].toArray cs0) ∈ nx) (p11 : BTake w0 w1 st0 st1 s0 s1 (2 * 10) q2 x0 x1 J0 J1) (p12 : x0.things.length + x1.things.length = n) : BWh prog w src wl sl tkq base w0 w1 st0 st1 s g1 L1 n s'
inductive BInv2 (prog : Program) (w : World) (src wl sl : Addr) (tkq : Tok) (BB : List (Addr × Obj)) (w0 w1 st0 st1 : Int) (I : Addr) (oI : Obj) (t : Tok) (i j : Nat) (m₁ : Str → Option Value) (nx : List (Addr × Obj)) : Prop
  | mk (q : WFq) (r0 : Row) (r1 : Row) (J0 : Int) (J1 : Int) (p0 : m₁ (Str.ofString "source") = some (.ref src)) (p1 : m₁ (Str.ofString "weights") = some (.ref wl)) (p2 : m₁ (Str.ofString "queues") = some (.ref q.x)) (p3 : m₁ (Str.ofString "most") = some (.int 9 tkq)) (p4 : m₁ (Str.ofString "sent") = some (.ref sl)) (p5 : m₁ (Str.ofString "turn") = some (.int (0 + (i : Int) * 1) t)) (p6 : Qst w ((I, oI) :: BB) [src] nx q) (p7 : SrcIn prog w nx src) (p8 : BPut w0 w1 st0 st1 (2 * i + j) q r0 r1 J0 J1) : BInv2 prog w src wl sl tkq BB w0 w1 st0 st1 I oI t i j m₁ nx
section
variable {prog : Program} {w : World} {p : Program} {loose : List Str} {mean : ExcName → Option Value} {mg mb : Str → Option Value}
    {dp un : Nat} {gd : Option (List Code)} {cn : Str} {cs : Scope} {a : Addr} {ccd : Value} {cl : List (Str × Addr)} {outer : List Env} {A₀ : Around} {base h₀ : Heap} {L : Addr} {m : Str → Option Value} {s : Shared} {Q E : Value → Shared → Prop}
    {news : List (Addr × Obj)}
set_option maxHeartbeats 8000000 in
theorem bound_c {src wl : Addr} {w0 w1 : Int} {a0 a1 : Tok} {c1 : Nat}
    (B : Below A₀ base outer h₀) (F : Fr h₀ L s.heap m) (X : (hK w.params).In h₀) (T : Top p loose mean mg mb h₀) (hk : cs.kind = .function) (N : News h₀ L s.heap news) (hS : SrcIn prog w news src) (hw : (wl, listOf [Value.int w0 a0, .int w1 a1].toArray c1) ∈ news) (hb0 : 1 ≤ w0 ∧ w0 ≤ 7) (hb1 : 1 ≤ w1 ∧ w1 ≤ 7)
    (hdp : dp + 60 < recursionLimit) (hun : un + 600 < cLine)
    (ret : ∀ h' tk' news', SrcIn prog w news' src → Keeps [src] news news' → Fr h₀ L h' m → News h₀ L h' news' → Q (.bool true) { s with heap := h', toks := tk' }) :
    wpAny (model prog w) (ktrTop dp un gd cn cs L a ccd cl outer) (call (.ref 289) [.ref src, .ref wl]) Q E s := by
  have kf : (fun (_ : OpenLaw) (_ : Params → Frag) => True) PySem.Challenge.rw_pc0369_01 hK := by k_fill; trivial
  clear kf
  have hb9 : Base s := ⟨⟩
  have hi : IntsAre [Value.int w0 a0, .int w1 a1] [w0, w1] := .cons _ _ (.cons _ _ .nil)
  have hb : ∀ x ∈ [w0, w1], 1 ≤ x ∧ x ≤ 7 := fun x hx => by
    simp only [List.mem_cons, List.not_mem_nil, or_false] at hx
    rcases hx with rfl | rfl
    · exact hb0
    · exact hb1
  refine wpAny_call ?_
  k_dflt (refine' code_def ?k1 ?k2 ?k3 ?k4 ?k5 ?kA ?kF ?kK ?k6 ?k7 ?k8 ?k9 ?kB ?_ ?c2 ?c3 ?c4 ?c5; (case kA => exact rfl); (case kF => exact rfl); (case kK => assumption); (case k1 => k_asm); (case k2 => k_asm); (case k3 => k_asm); (case k4 => k_asm); (case k5 => k_asm); (case k6 => k_is); (case k7 => k_is); (case k8 => k_room); (case k9 => first | exact BindsTo.of_eq rfl | exact binds_K (by k_in) rfl (by k_is) rfl rfl rfl); (case c5 => decide); (case kB => exact locs rfl); (case c2 => exact rfl); (case c3 => exact rfl); (case c4 => exact rfl); k_whole)
  intro g1 L1 h1 FG1 F1 N1 B1 X1 T1
  (try dsimp only); (try k_lift B1); (try k_fold)
  replace F1 := fr_open F1
  obtain ⟨m1, F1, em1⟩ := F1
  refine letMA ?_
  intro M9 A9
  k_steps
  refine Hold.mk ?_
  k_dflt (refine' init_c (ws := [w0, w1]) (most := 99) (moct := 9999) ?k1 ?k2 ?k3 ?k4 ?k5 ?N ?m ?m2 ?i ?b ?l ?l0 ?lim ?leq ?a1 ?a2 ?d ?u ?_; (case k1 => k_asm); (case k2 => k_asm); (case k3 => k_asm); (case k4 => k_asm); (case k5 => first | exact rfl | assumption); (case N => k_asm); (case m => k_mem); (case m2 => k_mem); (case i => exact hi); (case b => exact hb); (case l => exact Nat.le_of_ble_eq_true rfl); (case l0 => exact Nat.zero_lt_succ _); (case lim => intro v hv; rw [(List.mem_replicate.mp hv).2]; exact ⟨_, _, _, _, (by first | walk_at "look" | exact rfl), by k_mem⟩); (case leq => simp); (case a1 => decide); (case a2 => decide); (case d => k_room); (case u => k_units))
  intro q hq1 tkq nwq U0 U1 dv htm hst hla hrl hrow qi nq fq kq Fq1 Nq1
  (try dsimp only at Nq1 ⊢)
  (try k_fold)
  have hfin : Keeps [src] news (news.filter fun p => decide (p.1 ≠ src)) := fun p hp hn => List.mem_filter.mpr ⟨hp, by simpa using hn⟩
  have hwb : (wl, listOf [Value.int w0 a0, .int w1 a1].toArray c1) ∈ news.filter fun p => decide (p.1 ≠ src) := List.mem_filter.mpr ⟨hw, by simpa using SrcIn.ne_list hS N hw⟩
  have kq' : ∀ p ∈ news, p ∈ nwq := fun p hp => kq p (by simp only [List.mem_cons, hp, or_true])
  have fq' : ∀ a ∈ adrQ q, ∀ p ∈ news, @Ne Nat p.1 a := fun a ha p hp => fq a ha p (by simp only [List.mem_cons, hp, or_true])
  have hS2 : SrcIn prog w nwq src := by
    obtain ⟨so, b1, b2⟩ := hS
    exact ⟨so, kq' _ b1, b2⟩
  have S : Qst w (news.filter fun p => decide (p.1 ≠ src)) [src] nwq q := by
    refine ⟨qi, nq, fun p hp => kq' p (List.mem_filter.mp hp).1, fun p hp hm => fq' _ hm p (List.mem_filter.mp hp).1 rfl, fun p hp hm => ?_, fun a ha hm => ?_, hS2.noTup⟩
    · have := (List.mem_filter.mp hp).2
      simp only [decide_eq_true_eq] at this
      exact this (List.mem_singleton.mp hm)
    · obtain ⟨so, b1, _⟩ := hS
      rw [List.mem_singleton.mp ha] at hm
      exact fq' _ hm _ b1 rfl
  obtain ⟨st0, st1, r0, r1, M⟩ : ∃ st0 st1 r0 r1, BPut w0 w1 st0 st1 0 q r0 r1 0 0 := by
    obtain ⟨r0, r1, er⟩ : ∃ r0 r1, q.rows = [r0, r1] := by
      match h : q.rows, hrl with
      | [x, y], _ => exact ⟨x, y, (by first | walk_at "look" | exact rfl)⟩
    have h0 := hrow r0 (by rw [er]; simp)
    have h1 := hrow r1 (by rw [er]; simp)
    refine ⟨q.unit.fdiv w0, q.unit.fdiv w1, r0, r1, ⟨⟨hb0, hb1⟩, U0, step_mul hb0.1 (dv _ (by simp)), step_mul hb1.1 (dv _ (by simp)), hst, er, ⟨h0.1, h0.2.1, by rw [h0.2.2.1]; decide, by rw [h0.2.2.2.1]; exact Nat.le_refl _⟩, ⟨h1.1, h1.2.1, by rw [h1.2.2.1]; decide, by rw [h1.2.2.2.1]; exact Nat.le_refl _⟩, by rw [h0.2.2.2.1, h0.2.2.2.2]; exact .nil, by rw [h1.2.2.2.1, h1.2.2.2.2]; exact .nil, hla, htm⟩⟩
  generalize (news.filter fun p => decide (p.1 ≠ src)) = base at *
  have hwn := S.bk _ hwb
  clear kq fq kq' fq' U0 U1 dv htm hst hla hrl hrow qi nq
  k_steps
  refine Hold.mk ?_
  rename Fr g1 L1 _ _ => FR
  rename News g1 L1 _ _ => NR
  obtain ⟨sl, esl⟩ := name3 NR
  subst esl
  have hfr := ne2 (by assumption : @LT.lt Nat _ _ sl ∧ AllLt sl nwq)
  have hbs : ∀ p ∈ base, @Ne Nat p.1 sl := fun p hp => hfr p (S.bk p hp)
  obtain ⟨ts, NW, NX, S', hS3⟩ : ∃ ts NW, News g1 L1 _ NW ∧ Qst w ((sl, listOf [Value.int 0 ts, .int 0 ts].toArray 0) :: base) [src] NW q ∧ SrcIn prog w NW src := ⟨_, _, drop13 NR, S.iter hfr, hS2.up⟩
  clear NR S hwn hS2
  generalize hB : (sl, listOf [Value.int 0 ts, .int 0 ts].toArray 0) :: base = BB at S'
  have hwB : (wl, listOf [Value.int w0 a0, .int w1 a1].toArray c1) ∈ BB := by rw [← hB]; exact List.mem_cons_of_mem _ hwb
  have hz2 : Builtin.Range.rangeSize 0 2 1 = ((2 : Nat) : Int) := by decide
  refine my_range (n := 10) (fun i m₁ nx => BInv prog w src wl sl tkq BB w0 w1 st0 st1 i m₁ nx) (by rfl) (by assumption) (by decide) (by decide) FR NX ⟨q, r0, r1, 0, 0, (by first | walk_at "look" | exact rfl), (by first | walk_at "look" | exact rfl), (by first | walk_at "look" | exact rfl), (by first | walk_at "look" | exact rfl), (by first | walk_at "look" | exact rfl), S', hS3, M⟩ ?_ ?_
  rotate_left
  · rintro m₁ nx h tk HH9 FE NE
    refine gl fun G9 hG9 => ?_
    obtain ⟨q1, x0, x1, J0, J1, g1', g2', g3', g4', g5', S1, hs1, M1⟩ := HH9
    refine hG9 ?_
    clear hG9 G9
    clear FR NX S' hS3 M
    have FX := FE
    replace FX : Fr g1 L1 h _ := FX
    replace NE : News g1 L1 h nx := NE
    clear FE
    have msl : (sl, listOf [Value.int 0 ts, .int 0 ts].toArray 0) ∈ nx := S1.bk _ (by rw [← hB]; exact List.mem_cons_self ..)
    have S2 : Qst w base [sl, src] nx q1 := S1.toEx (by rw [← hB]; exact List.mem_cons_self ..) (by simp) (fun p hp => ⟨by rw [← hB]; exact List.mem_cons_of_mem _ hp, hbs p hp⟩)
    have M2 := M1.take (by decide)
    clear S1 M1
    k_steps
    refine Hold.mk ?_
    rename Fr g1 L1 _ _ => F4
    rename News g1 L1 _ _ => N4
    refine while_ind (fun n s' => BWh prog w src wl sl tkq base w0 w1 st0 st1 s g1 L1 n s') (by first | passes_own | with_unfolding_all passes_own) ?_ (x0.things.length + x1.things.length) _ ⟨_, _, _, _, q1, x0, x1, J0, J1, 0, 0, _, _, _, (by first | walk_at "look" | exact rfl), F4, N4, (by first | walk_at "look" | exact rfl), (by first | walk_at "look" | exact rfl), (by first | walk_at "look" | exact rfl), (by first | walk_at "look" | exact rfl), (by first | walk_at "look" | exact rfl), S2, hs1, msl, M2, (by first | walk_at "look" | exact rfl)⟩
    clear F4 N4 S2 hs1 msl M2
    rintro n s' HH9
    refine gl fun G9 hG9 => ?_
    obtain ⟨h, tk, m₂, nx, q2, x0, x1, J0, J1, s0, s1, b0, b1, cs0, rfl, F5, N5, g1', g2', g3', g4', g5', S2, hs2, msl, M2, hn⟩ := HH9
    refine hG9 ?_
    clear hG9 G9
    have FY := F5
    clear F5
    have qf := M2.facts (by decide)
    refine gl fun G9 hG9 => ?_
    obtain ⟨y1, ⟨k1, k2, k3, k4, k5, k6, t1, t2, y2⟩, ⟨c4, sv, y3, hisv⟩, ⟨c5, y4⟩, ⟨c6, y5⟩, ⟨c7, lv, y6, hilv⟩, y7⟩ := S2.qi
    refine hG9 ?_
    clear hG9 G9
    clear y3 y5 y6
    have hwn := S2.bk _ hwb
    k_steps
    refine Hold.mk (LCg.CompSrc.ledger rfl (by k_asm) (by k_asm) y4 (by simp only [List.size_toArray, List.length_map, sizeLine_eq]; have := qf.1; omega) fun g => ?_)
    refine rest_start (fun nw0 i ys nw => nw = nw0 ∧ ys.length = i ∧ IntsAre ys ((q2.rows.take i).map fun r => (r.things.length : Int))) ⟨rfl, rfl, by simpa using IntsAre.nil⟩ ?_ ?_
    rotate_left
    · rintro i v ys nw I oI C oC D m₂ h tk E' hi1 hP ⟨rfl, hl, hy⟩ hC hx' F9 N9 off ne
      have hi' : i < q2.rows.length := by simpa using hi1
      obtain rfl : v = .ref (q2.rows[i]).y := by simpa [hi'] using hP.symm
      have hr := (y7 _ (List.getElem_mem hi')).1
      have hrl := (qf.2 _ (List.getElem_mem hi')).1
      have et : (q2.rows.take (i + 1)).map (fun r => (r.things.length : Int)) = (q2.rows.take i).map (fun r => (r.things.length : Int)) ++ [((q2.rows[i]).things.length : Int)] := by
        rw [List.take_add_one, List.getElem?_eq_getElem hi', List.map_append]; rfl
      rw [et]
      generalize q2.rows[i] = r at *
      refine gl fun G9 hG9 => ?_
      obtain ⟨ry, ⟨a1, a2, a3, a4, a5, b1, b2, b3, b4, b5, rd⟩, c9, rt⟩ := hr
      refine hG9 ?_
      clear hG9 G9
      have etl : (thRefs r).length = r.things.length := by simp
      rw [← etl] at hrl ⊢
      generalize thRefs r = tvr at *
      clear y7 hn
      k_steps
      refine Hold.mk (LCg.CompEnd.intro (by k_asm) (by k_asm) nw (fun p hp => hp) off (.inr ⟨_, y4, rfl, _, rfl⟩) ⟨rfl, by simp [hl], ?_⟩)
      exact IntsAre.append hy (.cons _ _ .nil)
    rintro yv nw ⟨rfl, hl, hy⟩ so h9 tk9 F9 N9 o9
    have e9 : (q2.rows.take (q2.rows.map fun r => Value.ref r.y).toArray.size) = q2.rows := by simp
    rw [e9] at hy
    have hyl : 0 < yv.length := by rw [hl, List.size_toArray, List.length_map, M2.rows]; exact Nat.zero_lt_succ _
    clear o9 hl
    k_steps
    refine Hold.mk (my_min2 (by rfl) (by k_asm) (by k_asm) (by k_mem) hy hyl fun xm txm hm tkm hmem hle Fm Nm => ?_)
    (try dsimp only at Nm ⊢)
    (try k_fold)
    clear hy hyl
    k_steps
    refine whlIf_both (fun hbt => ?_) (fun hbf => ?_)
    · have hx0 : 0 < xm := of_decide_eq_true hbt
      clear hbt
      have p0 := hle _ (by rw [M2.rows]; simp : (x0.things.length : Int) ∈ _)
      have p1 := hle _ (by rw [M2.rows]; simp : (x1.things.length : Int) ∈ _)
      have h0 : x0.things ≠ [] := fun e => by rw [e] at p0; simp at p0; omega
      have h1 : x1.things ≠ [] := fun e => by rw [e] at p1; simp at p1; omega
      clear hle hmem y4
      k_steps
      rename News g1 L1 _ _ => NX
      refine Hold.mk ?_
      k_dflt (refine' take_c0 (q := q2) ?k1 ?k2 ?k3 ?k4 ?k5 ?N ?m ?n ?i ?b ?d ?u ?_ ?_; (case k1 => k_asm); (case k2 => k_asm); (case k3 => k_asm); (case k4 => k_asm); (case k5 => first | exact rfl | assumption); (case N => k_asm); (case m => exact (S2.up NX).qi); (case n => exact S2.nq); (case i => exact qf.1); (case b => exact qf.2); (case d => k_room); (case u => k_units))
      · intro h5 tk5 hc F5 N5
        exact absurd hc (M2.cne h0)
      intro q3 kk size thing T9 n9 u1 u2 u3 h5 tk5 nw5 hb3 hT3 hq3 hadr3 mT3 hfT3 hk5 F5 N5
      have msl' := hk5 _ (List.mem_cons_of_mem _ msl) (S2.qe sl (by simp))
      have hs3 := hs2.up.keeps (S2.qe src (by simp)) hk5
      have S3 := (S2.up NX).qstep hq3 (hadr3 ▸ S2.nq) (fun a ha => .inl (hadr3 ▸ ha)) hk5
      refine gl fun G9 hG9 => ?_
      obtain ⟨hk2, s0', s1', sk, tks, x0', x1', ff, gg, M3, hmeas, hsub, hset⟩ := btake2 (b0 := b0) (b1 := b1) M2 h0 h1 hb3 hT3
      refine hG9 ?_
      clear hG9 G9
      clear NX S2 hs2 msl hk5 hq3 y1 y2 y7 hwn M2
      have hkl : (0 : Int) ≤ (kk : Int) := by omega
      have hkf : (kk : Int) < 2 ^ 63 := by omega
      have hsT := S3.he.tup N5 mT3
      have mT4 : (T9, tupO [.int (kk : Int) u1, .int size u2, .int thing u3] n9) ∈ nw5.filter fun p => decide (p.1 ≠ sl) := List.mem_filter.mpr ⟨mT3, by simp only [List.mem_cons, not_or] at hsT; simpa using hsT.1⟩
      have hw5 := S3.bk _ hwb
      have hwf : (wl, listOf [Value.int w0 a0, .int w1 a1].toArray c1) ∈ nw5.filter fun p => decide (p.1 ≠ sl) := List.mem_filter.mpr ⟨hw5, by simpa using hbs _ hwb⟩
      have N6 : News g1 L1 h5 ((sl, listOf [Value.int s0 b0, .int s1 b1].toArray cs0) :: nw5.filter fun p => decide (p.1 ≠ sl)) := fun p hp => by
        rcases List.mem_cons.mp hp with rfl | hp
        · exact N5 _ msl'
        · exact N5 _ (List.mem_filter.mp hp).1
      have hnf : ∀ p ∈ nw5, p.1 ≠ sl → p ∈ nw5.filter fun p => decide (p.1 ≠ sl) := fun p hp hn => List.mem_filter.mpr ⟨hp, by simpa using hn⟩
      have hnf2 : ∀ p ∈ nw5.filter (fun p => decide (p.1 ≠ sl)), p.1 ≠ sl := fun p hp => by simpa using (List.mem_filter.mp hp).2
      have N5' := N5
      clear N5
      generalize (nw5.filter fun p => decide (p.1 ≠ sl)) = nf at *
      have keepN : News g1 L1 h5 nw5 → True := fun _ => trivial
      have S4' : ∀ v c9, Qst w base [sl, src] ((sl, listOf v c9) :: nf) q3 ∧ SrcIn prog w ((sl, listOf v c9) :: nf) src := fun v c9 => by
        have hk : Keeps [sl] nw5 ((sl, listOf v c9) :: nf) := fun p hp hn => List.mem_cons_of_mem _ (hnf p hp (fun e => hn (List.mem_singleton.mpr e)))
        refine ⟨S3.step N5' (fun a ha => by rw [List.mem_singleton.mp ha]; simp) (fun a ha => ⟨listOf v c9, by rw [List.mem_singleton.mp ha]; exact List.mem_cons_self .., by simp⟩) hk, hs3.keeps (fun e => ?_) hk⟩
        have e1 := List.mem_singleton.mp e
        exact (SrcIn.ne_list hs3 N5' msl') e1.symm
      clear N5' S3 hs3 hnf keepN
      (try dsimp only at N6 ⊢)
      (try k_fold)
      k_steps
      refine Hold.mk ?_
      refine' my_setv ?F ?N hkl hkf ?U ?l ?_
      case F => k_asm
      case N => k_asm
      case U => k_upd
      case l => (simp only [List.length_cons, List.length_nil]; omega)
      intro h13 F13 N13
      rw [hset] at N13
      obtain ⟨x9, y9, N14⟩ := name2 N13
      clear N13
      obtain ⟨S4, hs4⟩ := S4' [Value.int s0' x9, .int s1' y9].toArray cs0
      clear S4'
      (try dsimp only at N14 ⊢)
      (try k_sweep)
      (try k_fold)
      have msl4 := List.mem_cons_self (a := (sl, listOf [Value.int s0' x9, .int s1' y9].toArray cs0)) (l := nf)
      have hw6 := List.mem_cons_of_mem (sl, listOf [Value.int s0' x9, .int s1' y9].toArray cs0) hwf
      obtain ⟨NW6, eN6⟩ : ∃ NW6, NW6 = (sl, listOf [Value.int s0' x9, .int s1' y9].toArray cs0) :: nf := ⟨_, rfl⟩
      rw [← eN6] at N14 S4 hs4 msl4 hw6
      clear eN6 hwf mT4
      k_steps
      refine Hold.mk ?_
      rename Fr g1 L1 _ _ => FR3
      rename News g1 L1 _ _ => NR3
      have ssm : Sm s0' ∧ Sm s1' ∧ Sm w0 ∧ Sm w1 ∧ Sm 9 ∧ Sm (w1 + w0) := by
        have := M3.z0; have := M3.z1; have := M3.l0; have := M3.l1
        exact ⟨sm_mid (by omega), sm_mid (by omega), sm_mid (by omega), sm_mid (by omega), sm_mid (by decide), sm_mid (by omega)⟩
      refine gl fun G9 hG9 => ?_
      obtain ⟨sm1, sm2, sm3, sm4, sm5, sm6⟩ := ssm
      refine hG9 ?_
      clear hG9 G9
      have hgap := M3.gap
      refine my_range (n := 2) (fun i m₁ nx => nx = NW6 ∧ m₁ (Str.ofString "source") = some (.ref src) ∧ m₁ (Str.ofString "weights") = some (.ref wl) ∧ m₁ (Str.ofString "queues") = some (.ref q3.x) ∧ m₁ (Str.ofString "most") = some (.int 9 tkq) ∧ m₁ (Str.ofString "sent") = some (.ref sl)) (by rfl) (by assumption) (by decide) hz2 FR3 NR3 ⟨(by first | walk_at "look" | exact rfl), (by first | walk_at "look" | exact rfl), (by first | walk_at "look" | exact rfl), by rw [hT3.keep]; walk_at "look", (by first | walk_at "look" | exact rfl), (by first | walk_at "look" | exact rfl)⟩ ?_ ?_
      · rintro i t m₁ nx3 h tk I oI hin hcI hI HH9 FT NT
        refine gl fun G9 hG9 => ?_
        obtain ⟨rfl, g1', g2', g3', g4', g5'⟩ := HH9
        refine hG9 ?_
        clear hG9 G9
        have FX := FT
        replace FX : Fr g1 L1 h _ := FX
        replace NT : News g1 L1 h ((I, oI) :: nx3) := NT
        clear FT FR3 NR3
        have hii := lt2 hin
        rcases hii with rfl | rfl
        · have e : ((0 : Int) + ((0 : Nat) : Int) * 1) = 0 := by decide
          rw [e] at FX
          k_steps
          refine Hold.mk ?_
          rename Fr g1 L1 _ _ => FR4
          rename News g1 L1 _ _ => NR4
          refine my_range (n := 0) (fun j m₁ nx => nx = (I, oI) :: nx3 ∧ m₁ (Str.ofString "source") = some (.ref src) ∧ m₁ (Str.ofString "weights") = some (.ref wl) ∧ m₁ (Str.ofString "queues") = some (.ref q3.x) ∧ m₁ (Str.ofString "most") = some (.int 9 tkq) ∧ m₁ (Str.ofString "sent") = some (.ref sl)) (by rfl) (by assumption) (by decide) (by decide) FR4 NR4 ⟨(by first | walk_at "look" | exact rfl), (by first | walk_at "look" | exact rfl), (by first | walk_at "look" | exact rfl), (by first | walk_at "look" | exact rfl), (by first | walk_at "look" | exact rfl), (by first | walk_at "look" | exact rfl)⟩ ?_ ?_
          · intro j t2 m₂ nx2 h2 tk2 I2 oI2 hj2
            exact absurd hj2 (Nat.not_lt_zero _)
          · rintro m₂ nx2 h2 tk2 HH9 FE NE
            refine gl fun G9 hG9 => ?_
            obtain ⟨rfl, g1', g2', g3', g4', g5'⟩ := HH9
            refine hG9 ?_
            clear hG9 G9
            clear FR4 NR4
            have FX := FE
            replace FX : Fr g1 L1 h2 _ := FX
            replace NE : News g1 L1 h2 ((I, oI) :: nx3) := NE
            clear FE
            k_steps
            rename News g1 L1 _ _ => NZ
            exact my_end2 (by k_asm) NZ (List.mem_cons_self ..) (fun p hp => List.mem_cons_of_mem _ hp) hI ⟨(by first | walk_at "look" | exact rfl), (by first | walk_at "look" | exact rfl), (by first | walk_at "look" | exact rfl), (by first | walk_at "look" | exact rfl), (by first | walk_at "look" | exact rfl), (by first | walk_at "look" | exact rfl)⟩
        · have e : ((0 : Int) + ((1 : Nat) : Int) * 1) = 1 := by decide
          rw [e] at FX
          k_steps
          refine Hold.mk ?_
          rename Fr g1 L1 _ _ => FR4
          rename News g1 L1 _ _ => NR4
          refine my_range (n := 1) (fun j m₁ nx => nx = (I, oI) :: nx3 ∧ m₁ (Str.ofString "source") = some (.ref src) ∧ m₁ (Str.ofString "weights") = some (.ref wl) ∧ m₁ (Str.ofString "queues") = some (.ref q3.x) ∧ m₁ (Str.ofString "most") = some (.int 9 tkq) ∧ m₁ (Str.ofString "sent") = some (.ref sl) ∧ m₁ (Str.ofString "one") = some (.int 1 t)) (by rfl) (by assumption) (by decide) (by decide) FR4 NR4 ⟨(by first | walk_at "look" | exact rfl), (by first | walk_at "look" | exact rfl), (by first | walk_at "look" | exact rfl), (by first | walk_at "look" | exact rfl), (by first | walk_at "look" | exact rfl), (by first | walk_at "look" | exact rfl), (by first | walk_at "look" | exact rfl)⟩ ?_ ?_
          · rintro j t2 m₂ nx2 h2 tk2 I2 oI2 hj2 hcI2 hI2 HH9 FT2 NT2
            refine gl fun G9 hG9 => ?_
            obtain ⟨rfl, g1', g2', g3', g4', g5', g6'⟩ := HH9
            refine hG9 ?_
            clear hG9 G9
            obtain rfl : j = 0 := by omega
            have FX := FT2
            have e2 : ((0 : Int) + ((0 : Nat) : Int) * 1) = 0 := by decide
            rw [e2] at FX
            replace FX : Fr g1 L1 h2 _ := FX
            replace NT2 : News g1 L1 h2 ((I2, oI2) :: (I, oI) :: nx3) := NT2
            clear FT2 FR4 NR4
            have j1 : [Value.int s0' x9, .int s1' y9][((1 : Int)).toNat]? = some (.int s1' y9) := rfl
            have j2 : [Value.int s0' x9, .int s1' y9][((0 : Int)).toNat]? = some (.int s0' x9) := rfl
            have j3 : [Value.int w0 a0, .int w1 a1][((1 : Int)).toNat]? = some (.int w1 a1) := rfl
            have j4 : [Value.int w0 a0, .int w1 a1][((0 : Int)).toNat]? = some (.int w0 a0) := rfl
            k_steps
            rename News g1 L1 _ _ => NZ
            exact my_end2 (by k_asm) NZ (List.mem_cons_self ..) (fun p hp => List.mem_cons_of_mem _ hp) hI2 ⟨(by first | walk_at "look" | exact rfl), (by first | walk_at "look" | exact rfl), (by first | walk_at "look" | exact rfl), (by first | walk_at "look" | exact rfl), (by first | walk_at "look" | exact rfl), (by first | walk_at "look" | exact rfl), (by first | walk_at "look" | exact rfl)⟩
          · rintro m₂ nx2 h2 tk2 HH9 FE NE
            refine gl fun G9 hG9 => ?_
            obtain ⟨rfl, g1', g2', g3', g4', g5', g6'⟩ := HH9
            refine hG9 ?_
            clear hG9 G9
            clear FR4 NR4
            have FX := FE
            replace FX : Fr g1 L1 h2 _ := FX
            replace NE : News g1 L1 h2 ((I, oI) :: nx3) := NE
            clear FE
            k_steps
            rename News g1 L1 _ _ => NZ
            exact my_end2 (by k_asm) NZ (List.mem_cons_self ..) (fun p hp => List.mem_cons_of_mem _ hp) hI ⟨(by first | walk_at "look" | exact rfl), (by first | walk_at "look" | exact rfl), (by first | walk_at "look" | exact rfl), (by first | walk_at "look" | exact rfl), (by first | walk_at "look" | exact rfl), (by first | walk_at "look" | exact rfl)⟩
      · rintro m₁ nx3 h tk HH9 FE NE
        refine gl fun G9 hG9 => ?_
        obtain ⟨rfl, g1', g2', g3', g4', g5'⟩ := HH9
        refine hG9 ?_
        clear hG9 G9
        clear FR3 NR3
        have FX := FE
        replace FX : Fr g1 L1 h _ := FX
        replace NE : News g1 L1 h nx3 := NE
        clear FE
        k_steps
        rename Fr g1 L1 _ _ => F8
        rename News g1 L1 _ _ => N8
        exact ⟨x0'.things.length + x1'.things.length, by omega, _, _, _, _, q3, x0', x1', J0, J1, s0', s1', _, _, _, (by first | walk_at "look" | exact rfl), F8, N8, (by first | walk_at "look" | exact rfl), (by first | walk_at "look" | exact rfl), (by first | walk_at "look" | exact rfl), (by first | walk_at "look" | exact rfl), (by first | walk_at "look" | exact rfl), S4, hs4, msl4, M3, (by first | walk_at "look" | exact rfl)⟩
    · clear hbf y4
      k_steps
      exact ret _ _ _ hs2.up (fun p hp hn => List.mem_cons_of_mem _ (S2.bk p (hfin p hp hn))) (by k_asm) (by k_asm)
  · rintro i t m₁ nx h tk I oI hin hcI hI HH9 FT NT
    refine gl fun G9 hG9 => ?_
    obtain ⟨q1, x0, x1, J0, J1, g1', g2', g3', g4', g5', S1, hs1, M1⟩ := HH9
    refine hG9 ?_
    clear hG9 G9
    have FX := FT
    replace FX : Fr g1 L1 h _ := FX
    replace NT : News g1 L1 h ((I, oI) :: nx) := NT
    clear FT FR NX S' hS3 M
    have S2 := S1.iter (oI := oI) hI
    have hs2 : SrcIn prog w ((I, oI) :: nx) src := hs1.up
    have hbI : ∀ p ∈ BB, @Ne Nat p.1 I := fun p hp => hI p (S1.bk p hp)
    have hsI : @Ne Nat src I := by obtain ⟨so, b1, _⟩ := hs1; exact hI _ b1
    clear S1 hs1
    have hwn := S2.bk _ (List.mem_cons_of_mem _ hwB)
    k_steps
    refine Hold.mk ?_
    rename Fr g1 L1 _ _ => FR2
    rename News g1 L1 _ _ => NR2
    refine my_range (n := 2) (fun j m₁ nx => BInv2 prog w src wl sl tkq BB w0 w1 st0 st1 I oI t i j m₁ nx) (by rfl) (by assumption) (by decide) hz2 FR2 NR2 ⟨q1, x0, x1, J0, J1, (by first | walk_at "look" | exact rfl), (by first | walk_at "look" | exact rfl), (by first | walk_at "look" | exact rfl), (by first | walk_at "look" | exact rfl), (by first | walk_at "look" | exact rfl), (by first | walk_at "look" | exact rfl), S2, hs2, M1⟩ ?_ ?_
    · rintro j t2 m₂ nx2 h2 tk2 I2 oI2 hj2 hcI2 hI2 HH9 FT2 NT2
      refine gl fun G9 hG9 => ?_
      obtain ⟨q2, y0, y1, K0, K1, g1', g2', g3', g4', g5', g6', S3, hs3, M3⟩ := HH9
      refine hG9 ?_
      clear hG9 G9
      have e : (0 + (j : Int) * 1) = (j : Int) := by omega
      rw [e] at FT2
      have FX := FT2
      replace FX : Fr g1 L1 h2 _ := FX
      replace NT2 : News g1 L1 h2 ((I2, oI2) :: nx2) := NT2
      clear FT2 FR2 NR2 S2 hs2 M1 e
      have S4 := S3.iter (oI := oI2) hI2
      have hs4 : SrcIn prog w ((I2, oI2) :: nx2) src := hs3.up
      have hbI2 : ∀ p ∈ (I, oI) :: BB, @Ne Nat p.1 I2 := fun p hp => hI2 p (S3.bk p hp)
      have hsI2 : @Ne Nat src I2 := by obtain ⟨so, b1, _⟩ := hs3; exact hI2 _ b1
      clear S3 hs3
      have qf := M3.facts (by omega)
      refine gl fun G9 hG9 => ?_
      obtain ⟨mqa, ⟨_, _, _, _, _, _, _, _, mqb⟩, _⟩ := S4.qi
      refine hG9 ?_
      clear hG9 G9
      k_steps
      rename News g1 L1 _ _ => NX
      refine Hold.mk ?_
      k_dflt (refine' next_m ?k1 ?k2 ?k3 ?k4 ?k5 ?N ?S ?d ?u ?t1 ?t2 ?_; (case k1 => k_asm); (case k2 => k_asm); (case k3 => k_asm); (case k4 => k_asm); (case k5 => first | exact rfl | assumption); (case N => k_asm); (case S => exact hs4); (case d => k_room); (case u => k_units); (case t1 => first | decide | omega); (case t2 => first | decide | omega))
      intro r5 tr5 h12 tk12 nw12 hr50 hr51 hs12 hk12 F12 N12
      have S5 := S4.src NX (List.mem_singleton.mpr rfl) hs12 hk12
      clear NX hk12 S4 hs4 mqa mqb
      (try dsimp only at N12 ⊢)
      (try k_fold)
      k_steps
      rename News g1 L1 _ _ => NX
      refine Hold.mk ?_
      k_dflt (refine' put_c (q := q2) (k := j) ?k1 ?k2 ?k3 ?k4 ?k5 ?N ?ho ?hn ?a ?b ?c ?d ?e ?f1 ?f2 ?g ?u ?_; (case k1 => k_asm); (case k2 => k_asm); (case k3 => k_asm); (case k4 => k_asm); (case k5 => first | exact rfl | assumption); (case N => k_asm); (case ho => exact S5.qi); (case hn => exact S5.nq); (case a => rw [M3.rows]; exact hj2); (case b => exact qf.1); (case c => exact qf.2.1); (case d => exact qf.2.2.1); (case e => exact qf.2.2.2 _ (by omega)); (case f1 => omega); (case f2 => omega); (case g => k_room); (case u => k_units))
      intro q3 h16 tk16 nw16 hP hq3 hnq3 hfq3 hk16 F16 N16
      have S6 := S5.qstep hq3 hnq3 hfq3 hk16
      have hs6 := hs12.keeps (S5.qe src (List.mem_singleton.mpr rfl)) hk16
      clear NX hq3 hnq3 hfq3 hk16 S5
      (try dsimp only at N16 ⊢)
      (try k_fold)
      k_steps
      rename News g1 L1 _ _ => NZ
      refine gl fun G9 hG9 => ?_
      obtain ⟨z0, z1, Z0, Z1, M4⟩ := bput M3 (by omega) (by omega) hP
      refine hG9 ?_
      clear hG9 G9
      exact my_end (by k_asm) NZ (S6.bk _ (List.mem_cons_self ..)) ⟨q3, z0, z1, Z0, Z1, (by first | walk_at "look" | exact rfl), (by first | walk_at "look" | exact rfl), by rw [hP.keep]; walk_at "look", (by first | walk_at "look" | exact rfl), (by first | walk_at "look" | exact rfl), (by first | walk_at "look" | exact rfl), S6.drop NZ hcI2 hbI2, hs6.offI hsI2, M4⟩
    · rintro m₂ nx2 h2 tk2 HH9 FE NE
      refine gl fun G9 hG9 => ?_
      obtain ⟨q2, y0, y1, K0, K1, g1', g2', g3', g4', g5', g6', S3, hs3, M3⟩ := HH9
      refine hG9 ?_
      clear hG9 G9
      clear FR2 NR2 S2 hs2 M1
      have FX := FE
      replace FX : Fr g1 L1 h2 _ := FX
      replace NE : News g1 L1 h2 nx2 := NE
      clear FE
      k_steps
      rename News g1 L1 _ _ => NZ
      exact my_end (by k_asm) NZ (S3.bk _ (List.mem_cons_self ..)) ⟨q2, y0, y1, K0, K1, (by first | walk_at "look" | exact rfl), (by first | walk_at "look" | exact rfl), (by first | walk_at "look" | exact rfl), (by first | walk_at "look" | exact rfl), (by first | walk_at "look" | exact rfl), S3.drop NZ hcI hbI, hs3.offI hsI, M3⟩
end

theorem ln33 : True := by
  k_with "off64" => skip
  trivial
end Part23
section Part24
theorem wo24 : True := by
  w_top off
  trivial
section
variable {prog : Program} {w : World} {p : Program} {loose : List Str} {mean : ExcName → Option Value} {mg mb : Str → Option Value}
    {dp un : Nat} {gd : Option (List Code)} {cn : Str} {cs : Scope} {a : Addr} {ccd : Value} {cl : List (Str × Addr)} {outer : List Env} {A₀ : Around} {base h₀ : Heap} {L : Addr} {m : Str → Option Value} {s : Shared} {Q E : Value → Shared → Prop}
    {news : List (Addr × Obj)}
theorem pick_u {src tl : Addr} {o : Obj} {vs : List Value} {c : Nat} {g : Obj → List (Addr × Obj)}
    (B : Below A₀ base outer h₀) (F : Fr h₀ L s.heap m) (X : (hK w.params).In h₀) (T : Top p loose mean mg mb h₀) (hk : cs.kind = .function) (N : News h₀ L s.heap news) (U : UpdF src o news g) (hS : SrcOk prog w src o) (hm : (tl, listOf vs.toArray c) ∈ news) (hne : @Ne Nat tl src)
    (hdp : dp + 9 < recursionLimit) (hun : un + 90 < cLine) (hn : 0 < vs.length) (hn2 : vs.length < 1000)
    (ret : ∀ (v : Value) (h' : Heap) (tk' : Nat) (o' : Obj), v ∈ vs → SrcOk prog w src o' → Fr h₀ L h' m → News h₀ L h' (g o') → Q v { s with heap := h', toks := tk' }) :
    wpAny (model prog w) (ktrTop dp un gd cn cs L a ccd cl outer) (call (.ref 253) [.ref src, .ref tl]) Q E s := by
  obtain ⟨pre, post, rfl, hg, e1, e2⟩ := U.split
  refine pick_c (c := c) (rest := pre ++ post) B F X T hk (fun q hq => N q ?_) (fun q hq => ?_) hS ?_ hdp hun hn hn2 fun v h' tk' o' hv hS' F' N' => ret v h' tk' o' hv hS' F' fun q hq => N' q ?_
  · rcases List.mem_cons.mp hq with rfl | hq
    · simp
    · rcases List.mem_append.mp hq with hq | hq <;> simp [hq]
  · rcases List.mem_append.mp hq with hq | hq
    · exact e1 q hq
    · exact e2 q hq
  · rcases List.mem_append.mp hm with h | h
    · exact List.mem_append_left _ h
    · rcases List.mem_cons.mp h with h | h
      · exact absurd (congrArg Prod.fst h) hne
      · exact List.mem_append_right _ h
  · rw [hg] at hq
    rcases List.mem_append.mp hq with hq | hq
    · simp [hq]
    · rcases List.mem_cons.mp hq with rfl | hq <;> simp_all
end
theorem most_mem {v : Value} {a b c d : Tok} (h : v ∈ [Value.int 0 a, .int 1 b, .int 2500 c, .int 10000 d]) : ∃ mo t, v = .int mo t ∧ 0 ≤ mo ∧ mo ≤ 10000 := by
  simp only [List.mem_cons, List.not_mem_nil, or_false] at h
  rcases h with rfl | rfl | rfl | rfl
  · exact ⟨0, _, rfl, by decide⟩
  · exact ⟨1, _, rfl, by decide⟩
  · exact ⟨2500, _, rfl, by decide⟩
  · exact ⟨10000, _, rfl, by decide⟩
theorem share_nn {low high most lev : Int} (hm : 0 ≤ most) (hlh : low < high) : 0 ≤ shareF low high most lev := by
  unfold shareF
  split
  · exact Int.le_refl _
  · split
    · decide
    · rename_i h1 h2
      rw [Int.fdiv_eq_ediv_of_nonneg _ (by omega)]
      exact Int.ediv_nonneg (Int.mul_nonneg hm (by omega)) (by omega)
theorem share_le {low high most lev : Int} (hm : 0 ≤ most) (hm2 : most ≤ 10000) (hlh : low < high) : shareF low high most lev ≤ 10000 := by
  unfold shareF
  split
  · decide
  · split
    · exact Int.le_refl _
    · rename_i h1 h2
      rw [Int.fdiv_eq_ediv_of_nonneg _ (by omega)]
      refine Int.le_trans (Int.ediv_le_ediv (c := high - low) (by omega) (b := 10000 * (high - low)) ?_) (by rw [Int.mul_ediv_cancel _ (by omega)]; exact Int.le_refl _)
      exact Int.le_trans (Int.mul_le_mul_of_nonneg_right hm2 (by omega)) (Int.mul_le_mul_of_nonneg_left (by omega) (by decide))
theorem share_mono {low high most lev lev' : Int} (hm : 0 ≤ most) (hm2 : most ≤ 10000) (hlh : low < high) (hl : lev ≤ lev') : shareF low high most lev ≤ shareF low high most lev' := by
  by_cases h1 : lev ≤ low
  · have : shareF low high most lev = 0 := if_pos h1
    rw [this]; exact share_nn hm hlh
  · by_cases h2 : lev' ≥ high
    · have : shareF low high most lev' = 10000 := by unfold shareF; rw [if_neg (by omega), if_pos h2]
      rw [this]; exact share_le hm hm2 hlh
    · unfold shareF
      rw [if_neg h1, if_neg (by omega), if_neg (by omega), if_neg h2, Int.fdiv_eq_ediv_of_nonneg _ (by omega), Int.fdiv_eq_ediv_of_nonneg _ (by omega)]
      exact Int.ediv_le_ediv (by omega) (Int.mul_le_mul_of_nonneg_left (by omega) hm)
theorem ne_adx {a1 a2 a3 a4 a5 a6 a7 d : Nat} {rest : List (Addr × Obj)} (h : a1 < d ∧ a2 < d ∧ a3 < d ∧ a4 < d ∧ a5 < d ∧ a6 < d ∧ a7 < d ∧ AllLt d rest) : ∀ p ∈ rest, @Ne Nat p.1 d := fun p hp => Nat.ne_of_lt (allLt_mem h.2.2.2.2.2.2.2 p hp)
theorem size_nn {b c : Int} (hc : 1 ≤ c) : 0 ≤ Builtin.Range.rangeSize 0 b c := by
  unfold Builtin.Range.rangeSize
  rw [if_pos (by omega)]
  split
  · have := Int.ediv_nonneg (show 0 ≤ b - 0 - 1 by omega) (show 0 ≤ c by omega); omega
  · exact Int.le_refl _
theorem size_le {b c : Int} (hb : 0 < b) (hc : 1 ≤ c) : Builtin.Range.rangeSize 0 b c ≤ b := by
  unfold Builtin.Range.rangeSize
  rw [if_pos (by omega), if_pos hb]
  have := Int.ediv_le_self c (show 0 ≤ b - 0 - 1 by omega)
  omega
theorem small_st {b c : Int} (hb : 0 < b) (hb' : b < 1000) (hc : 1 ≤ c) (hc' : c < 1000) : Builtin.Range.small 0 b c = true := by
  have h1 := size_nn (b := b) hc
  have h2 := size_le hb hc
  unfold Builtin.Range.small
  generalize Builtin.Range.rangeSize 0 b c = z at *
  simp only [Builtin.Range.rangeFitsLong, Bool.and_eq_true, Bool.or_eq_true, decide_eq_true_eq, beq_iff_eq]
  rw [if_pos (by omega)]
  simp only [Bool.and_eq_true, decide_eq_true_eq]
  omega
theorem curve_start {prog : Program} {w : World} {h₀ h : Heap} {L t ax adx cx cdx x1 x2 x3 cl src : Addr} {ot oa oad ocx ocd o1 o2 o3 oc so : Obj} {rest : List (Addr × Obj)} (N : News h₀ L h ((t, ot) :: (ax, oa) :: (adx, oad) :: (cx, ocx) :: (cdx, ocd) :: (x1, o1) :: (x2, o2) :: (x3, o3) :: (cl, oc) :: (src, so) :: rest)) (hS : SrcOk prog w src so) (e1 : ∀ p ∈ rest, p.1 ≠ src) (n1 : @Ne Nat ax src) (n2 : @Ne Nat adx src) (n3 : @Ne Nat cx src) (n4 : @Ne Nat cdx src) (n5 : @Ne Nat cl src) :
    ∃ (NW BX : List (Addr × Obj)), News h₀ L h NW ∧ SrcIn prog w NW src ∧ (∀ p ∈ BX, p ∈ NW ∧ @Ne Nat p.1 src) ∧ (ax, oa) ∈ BX ∧ (adx, oad) ∈ BX ∧ (cx, ocx) ∈ BX ∧ (cdx, ocd) ∈ BX ∧ (cl, oc) ∈ BX ∧ ∀ p ∈ rest, p ∈ BX := by
  refine ⟨_, (ax, oa) :: (adx, oad) :: (cx, ocx) :: (cdx, ocd) :: (cl, oc) :: rest, N, ⟨so, by simp, hS⟩, fun p hp => ?_, by simp, by simp, by simp, by simp, by simp, fun p hp => by simp [hp]⟩
  simp only [List.mem_cons] at hp ⊢
  rcases hp with rfl | rfl | rfl | rfl | rfl | hp
  · exact ⟨by simp, n1⟩
  · exact ⟨by simp, n2⟩
  · exact ⟨by simp, n3⟩
  · exact ⟨by simp, n4⟩
  · exact ⟨by simp, n5⟩
  · exact ⟨by simp [hp], e1 p hp⟩
theorem off3_of {I C D : Addr} : ∀ {l : List (Addr × Obj)}, (∀ p ∈ l, @Ne Nat p.1 I ∧ @Ne Nat p.1 C ∧ @Ne Nat p.1 D) → LCg.Off3 I C D l
  | [], _ => trivial
  | p :: r, h => ⟨h p (List.mem_cons_self ..), off3_of fun q hq => h q (List.mem_cons_of_mem _ hq)⟩
/-- the levels, as they are drawn -/
noncomputable def LevJ (prog : Program) (w : World) (src : Addr) (BX : List (Addr × Obj)) (i : Nat) (ys : List Value) (nw : List (Addr × Obj)) : Prop :=
  SrcIn prog w nw src ∧ (∀ p ∈ BX, p ∈ nw) ∧ ∃ ls : List Int, IntsAre ys ls ∧ ls.length = i ∧ ∀ x ∈ ls, 0 ≤ x ∧ x < 50
theorem lev_step {prog : Program} {w : World} {h₀ h' : Heap} {L I C D src : Addr} {m : Str → Option Value} {s₁ : Shared} {oI oC oD : Obj} {tk : Nat} {nw news' BX : List (Addr × Obj)} {i : Nat} {ys : List Value} {r : Int} {t : Tok}
    (F : Fr h₀ L h' m) (N : News h₀ L h' news') (J : LevJ prog w src BX i ys nw) (off : LCg.Off3 I C D nw) (hBs : ∀ p ∈ BX, @Ne Nat p.1 src) (hs : SrcIn prog w news' src) (hk : Keeps [src] ((I, oI) :: (C, oC) :: (D, oD) :: nw) news') (h0 : 0 ≤ r) (h1 : r < 50) :
    LCg.CompEnd h₀ L m s₁ I oI C oC D oD (fun _ => True) (fun y nw' => LevJ prog w src BX (i + 1) (ys ++ [y]) nw') (.int r t) { s₁ with heap := h', toks := tk } := by
  refine gl fun G9 hG9 => ?_
  obtain ⟨⟨so, hso, hso2⟩, hb, ls, e1, e2, e3⟩ := J
  refine hG9 ?_
  clear hG9 G9
  have om := LCg.Off3.mem off
  have nI : @Ne Nat I src ∧ @Ne Nat C src ∧ @Ne Nat D src := ⟨Ne.symm (om _ hso).1, Ne.symm (om _ hso).2.1, Ne.symm (om _ hso).2.2⟩
  have mI : (I, oI) ∈ news' := hk _ (by simp) (fun e => nI.1 (List.mem_singleton.mp e))
  have mC : (C, oC) ∈ news' := hk _ (by simp) (fun e => nI.2.1 (List.mem_singleton.mp e))
  have mD : (D, oD) ∈ news' := hk _ (by simp) (fun e => nI.2.2 (List.mem_singleton.mp e))
  obtain ⟨so', hs1, hs2⟩ := hs
  refine LCg.CompEnd.intro F N (news'.filter fun p => decide (p.1 ≠ I ∧ p.1 ≠ C ∧ p.1 ≠ D)) (fun p hp => ?_) (off3_of fun p hp => by simpa using (List.mem_filter.mp hp).2) trivial ⟨⟨so', List.mem_filter.mpr ⟨hs1, ?_⟩, hs2⟩, fun p hp => List.mem_filter.mpr ⟨hk _ ?_ ?_, ?_⟩, ls ++ [r], IntsAre.append e1 (.cons _ _ .nil), by simp [e2], fun x hx => ?_⟩
  · simp only [List.mem_cons] at hp
    rcases hp with rfl | rfl | rfl | hp
    · exact mI
    · exact mC
    · exact mD
    · exact (List.mem_filter.mp hp).1
  · simp only [decide_eq_true_eq]; exact ⟨Ne.symm nI.1, Ne.symm nI.2.1, Ne.symm nI.2.2⟩
  · simp only [List.mem_cons, hb p hp, or_true]
  · exact fun e => hBs p hp (List.mem_singleton.mp e)
  · simp only [decide_eq_true_eq]; exact om _ (hb p hp)
  · rcases List.mem_append.mp hx with hx | hx
    · exact e3 x hx
    · rw [List.mem_singleton.mp hx]; exact ⟨h0, h1⟩
theorem ints_at {vs : List Value} {ns : List Int} (hi : IntsAre vs ns) {i : Nat} {v : Value} (h : vs[i]? = some v) : ∃ x t, v = .int x t ∧ x ∈ ns := by
  have hl := IntsAre.length hi
  have hi' : i < vs.length := (List.getElem?_eq_some_iff.mp h).1
  obtain ⟨t, e⟩ := hi.get i (ns[i]'(by omega)) (List.getElem?_eq_getElem (by omega))
  rw [e] at h
  exact ⟨_, t, (Option.some.inj h).symm, List.getElem_mem _⟩
theorem lev_start {prog : Program} {w : World} {h₀ h : Heap} {L t so3 src ax adx : Addr} {ot : Obj} {yv : List Value} {nw BX : List (Addr × Obj)} {sh pa : Int} {k1 k2 t1 t2 : Tok} (N : News h₀ L h ((t, ot) :: (so3, LCg.lst yv) :: nw)) (hS : SrcIn prog w nw src) (hb : ∀ p ∈ BX, p ∈ nw) (n2 : @Ne Nat adx src) (n3 : @Ne Nat ax adx) (n8 : @Ne Nat adx so3)
    (b1 : (ax, instObj 193 adx) ∈ BX) (b2 : (adx, dictOf [ent w "shift" k1 (.int sh t1), ent w "parts" k2 (.int pa t2)] 2) ∈ BX) :
    ∃ (RR : List (Addr × Obj)) (k1 k2 t1 t2 : Tok), News h₀ L h ((adx, dictOf [ent w "shift" k1 (.int sh t1), ent w "parts" k2 (.int pa t2)] 2) :: RR) ∧ (ax, instObj 193 adx) ∈ RR ∧ SrcIn prog w RR src ∧ (so3, listOf yv.toArray yv.length) ∈ RR ∧ (∀ p ∈ BX, p.1 ≠ adx → p ∈ RR) ∧ ∀ p ∈ RR, p.1 ≠ adx := by
  obtain ⟨so, hs1, hs2⟩ := hS
  refine ⟨(so3, LCg.lst yv) :: nw.filter fun p => decide (p.1 ≠ adx), k1, k2, t1, t2, fun p hp => ?_, List.mem_cons_of_mem _ (List.mem_filter.mpr ⟨hb _ b1, by simpa using n3⟩), ⟨so, List.mem_cons_of_mem _ (List.mem_filter.mpr ⟨hs1, by simpa using Ne.symm n2⟩), hs2⟩, List.mem_cons_self .., fun p hp hn => List.mem_cons_of_mem _ (List.mem_filter.mpr ⟨hb _ hp, by simpa using hn⟩), fun p hp => ?_⟩
  · simp only [List.mem_cons] at hp
    rcases hp with rfl | rfl | hp
    · exact N _ (List.mem_cons_of_mem _ (List.mem_cons_of_mem _ (hb _ b2)))
    · exact N _ (by simp)
    · exact N _ (List.mem_cons_of_mem _ (List.mem_cons_of_mem _ (List.mem_filter.mp hp).1))
  · simp only [List.mem_cons] at hp
    rcases hp with rfl | hp
    · exact Ne.symm n8
    · simpa using (List.mem_filter.mp hp).2
theorem parts0 {ls : List Int} {sh M : Int} (hls : ∀ x ∈ ls, 0 ≤ x ∧ x < 50) (hlen : ls.length = 7) (hM : ∀ y ∈ ls, y ≤ M) : 0 < (M + 1) * 2 ^ sh.toNat := by
  obtain ⟨x, r, e⟩ : ∃ x r, ls = x :: r := by
    cases ls with
    | nil => cases hlen
    | cons x r => exact ⟨x, r, rfl⟩
  have h1 := hls x (by rw [e]; simp)
  have h2 := hM x (by rw [e]; simp)
  exact Int.mul_pos (by omega) (Int.pow_pos (by decide))
theorem parts_nn {pa lv : Int} {n : Nat} (h0 : 0 ≤ pa) (h1 : 0 ≤ lv) : 0 ≤ pa + lv - pa.fdiv (2 ^ n) := by
  have hk : (0 : Int) < 2 ^ n := Int.pow_pos (by decide)
  rw [Int.fdiv_eq_ediv_of_nonneg _ (by omega)]
  have := Int.ediv_le_self (2 ^ n) h0
  omega
theorem parts_lt {pa lv M : Int} {n : Nat} (h0 : 0 ≤ pa) (h1 : lv ≤ M) (h2 : pa < (M + 1) * 2 ^ n) : pa + lv - pa.fdiv (2 ^ n) < (M + 1) * 2 ^ n := by
  have hk : (0 : Int) < 2 ^ n := Int.pow_pos (by decide)
  rw [Int.fdiv_eq_ediv_of_nonneg _ (by omega)]
  generalize (2 : Int) ^ n = k at *
  have e := Int.emod_add_mul_ediv pa k
  have r0 := Int.emod_nonneg pa (show k ≠ 0 by omega)
  have r1 := Int.emod_lt_of_pos pa hk
  have q1 : pa / k < M + 1 := Int.ediv_lt_of_lt_mul hk h2
  generalize pa / k = z at *
  generalize pa % k = r at *
  have p := Int.mul_nonneg (show 0 ≤ M - z by omega) (show 0 ≤ k - 1 by omega)
  have e2 : (M - z) * (k - 1) = M * k - M - z * k + z := by rw [Int.sub_mul, Int.mul_sub, Int.mul_sub]; omega
  have e3 : (M + 1) * k = M * k + k := by rw [Int.add_mul]; omega
  have e4 : k * z = z * k := Int.mul_comm _ _
  omega
theorem parts_top {p x : Int} {n : Nat} (h0 : 0 ≤ p) (h : p < (x + 1) * 2 ^ n) : ¬ p.fdiv (2 ^ n) > x := by
  have hk : (0 : Int) < 2 ^ n := Int.pow_pos (by decide)
  rw [Int.fdiv_eq_ediv_of_nonneg _ (by omega)]
  have := Int.ediv_lt_of_lt_mul hk h
  omega
theorem lev_end {w : World} {J : (Str → Option Value) → List (Addr × Obj) → Prop} {h₀ : Heap} {L adx : Addr} {m' : Str → Option Value} {s₁ : Shared} {h' : Heap} {tk : Nat} {sh pa : Int} {k1 k2 t1 t2 : Tok} {R2 RR own : List (Addr × Obj)} (F : Fr h₀ L h' m')
    (N : News h₀ L h' ((adx, dictOf [ent w "shift" k1 (.int sh t1), ent w "parts" k2 (.int pa t2)] 2) :: R2)) (hoff : OwnOff own (adx :: RR.map (·.1))) (s1 : ∀ p ∈ RR, p ∈ R2) (s2 : ∀ p ∈ own, p ∈ R2)
    (hj : ∀ k2 t2, J m' ((adx, dictOf [ent w "shift" k1 (.int sh t1), ent w "parts" k2 (.int pa t2)] 2) :: RR)) : InvEndG h₀ L J own s₁ { s₁ with heap := h', toks := tk } := by
  refine InvEndG.intro F N (hj k2 t2) hoff (fun p hp => ?_) fun p hp => List.mem_cons_of_mem _ (s2 p hp)
  rcases List.mem_cons.mp hp with rfl | hp
  · exact List.mem_cons_self ..
  · exact List.mem_cons_of_mem _ (s1 p hp)
inductive CInv (prog : Program) (w : World) (src cx ax : Addr) (BX : List (Addr × Obj)) (low sh high mo st : Int) (tlow tsh : Tok) (i : Nat) (m₁ : Str → Option Value) (nx : List (Addr × Obj)) : Prop
  | mk (lst : Int) (tl : Tok) (th : Tok) (tm : Tok) (p0 : m₁ (Str.ofString "low") = some (.int low tlow)) (p1 : m₁ (Str.ofString "shift") = some (.int sh tsh)) (p2 : m₁ (Str.ofString "high") = some (.int high th)) (p3 : m₁ (Str.ofString "most") = some (.int mo tm)) (p4 : m₁ (Str.ofString "curve") = some (.ref cx)) (p5 : m₁ (Str.ofString "average") = some (.ref ax)) (p6 : m₁ (Str.ofString "last") = some (.int lst tl)) (p7 : SrcIn prog w nx src) (p8 : (∀ p ∈ BX, p ∈ nx)) (p9 : 0 ≤ lst) (p10 : ∀ lev : Int, (i : Int) * (1 + st) ≤ lev → lst ≤ shareF low high mo lev) : CInv prog w src cx ax BX low sh high mo st tlow tsh i m₁ nx
inductive PInv (w : World) (adx ax so3 : Addr) (RR : List (Addr × Obj)) (ls : List Int) (sh : Int) (pk1 pt1 tsh : Tok) (m₁ : Str → Option Value) (nx : List (Addr × Obj)) : Prop
  | mk (pa : Int) (tpa : Tok) (tp : Tok) (pk2 : Tok) (p0 : nx = (adx, dictOf [ent w "shift" pk1 (.int sh pt1), ent w "parts" pk2 (.int pa tpa)] 2) :: RR) (p1 : m₁ (Str.ofString "shift") = some (.int sh tsh)) (p2 : m₁ (Str.ofString "parts") = some (.int pa tp)) (p3 : m₁ (Str.ofString "average") = some (.ref ax)) (p4 : m₁ (Str.ofString "levels") = some (.ref so3)) (p5 : 0 ≤ pa) (p6 : ∀ M : Int, (∀ y ∈ ls, y ≤ M) → pa < (M + 1) * 2 ^ sh.toNat) : PInv w adx ax so3 RR ls sh pk1 pt1 tsh m₁ nx
theorem curve_names {h₀ h : Heap} {L t ax adx cx cdx : Addr} {ot : Obj} {es es' : List DictEntry} {k k' : Nat} {r : List (Addr × Obj)} (_ : News h₀ L h ((t, ot) :: (ax, instObj 193 adx) :: (adx, dictOf es k) :: (cx, instObj 228 cdx) :: (cdx, dictOf es' k') :: r)) : ∃ a b c d : Addr, a = ax ∧ b = adx ∧ c = cx ∧ d = cdx := ⟨_, _, _, _, rfl, rfl, rfl, rfl⟩
theorem ln34 : True := by
  k_with "my call ref" => ((fail_if_success (k_extra "off66")); (k_here; refine hold_ref [253, 228, 193, 190, 218, 225, 246] rfl ?_))
  k_with "my call builtin:max cons nil" => ((fail_if_success (k_extra "off66")); (k_here; refine Hold.out ?_))
  k_with "my eval IfExp" => ((fail_if_success (k_extra "off66")); (k_here; (fail_if_success (with_reducible show wpAny _ _ _ (fun v s => Hold _) _ _)); refine Hold.out ?_))
  trivial
section
variable {prog : Program} {w : World} {p : Program} {loose : List Str} {mean : ExcName → Option Value} {mg mb : Str → Option Value}
    {dp un : Nat} {gd : Option (List Code)} {cn : Str} {cs : Scope} {a : Addr} {ccd : Value} {cl : List (Str × Addr)} {outer : List Env} {A₀ : Around} {base h₀ : Heap} {L : Addr} {m : Str → Option Value} {s : Shared} {Q E : Value → Shared → Prop}
    {news : List (Addr × Obj)}
set_option maxHeartbeats 4000000 in
theorem curve_c {src : Addr} {so : Obj} {rest : List (Addr × Obj)}
    (B : Below A₀ base outer h₀) (F : Fr h₀ L s.heap m) (X : (hK w.params).In h₀) (T : Top p loose mean mg mb h₀) (hk : cs.kind = .function) (N : News h₀ L s.heap ((src, so) :: rest)) (e1 : ∀ p ∈ rest, p.1 ≠ src) (hS : SrcOk prog w src so)
    (hdp : dp + 60 < recursionLimit) (hun : un + 600 < cLine)
    (ret : ∀ h' tk' so', SrcOk prog w src so' → Fr h₀ L h' m → News h₀ L h' ((src, so') :: rest) → Q (.bool true) { s with heap := h', toks := tk' }) :
    wpAny (model prog w) (ktrTop dp un gd cn cs L a ccd cl outer) (call (.ref 294) [.ref src]) Q E s := by
  have kf : (fun (_ : OpenLaw) (_ : Params → Frag) => True) PySem.Challenge.rw_pc0369_01 hK := by k_fill; trivial
  clear kf
  have hb9 : Base s := ⟨⟩
  refine wpAny_call ?_
  k_dflt (refine' code_defC ?k1 ?k2 ?k3 ?k4 ?k5 ?kA ?kF ?kK ?k6 ?k7 ?k8 ?k9 ?kB ?kD ?_ ?c2 ?c3 ?c4; (case kA => exact rfl); (case kF => exact rfl); (case kK => first | exact rfl | assumption); (case k1 => k_asm); (case k2 => k_asm); (case k3 => k_asm); (case k4 => k_asm); (case k5 => k_asm); (case k6 => k_is); (case k7 => k_is); (case k8 => k_room); (case k9 => first | exact BindsTo.of_eq rfl | exact binds_K (by k_in) rfl (by k_is) rfl rfl rfl); (case kB => exact rfl); (case kD => decide +kernel); (case c2 => exact rfl); (case c3 => exact rfl); (case c4 => exact rfl); k_whole)
  intro g1 L1 h2 tk1 cells FG1 F2 N2 Y1 B1 X1 T1 l3
  (try k_lt l3)
  have hY := CellsAre.one Y1
  obtain ⟨oc, hE, dc⟩ := hY
  subst hE
  clear Y1
  simp only [List.cons_append, List.nil_append] at N2
  (try dsimp only)
  (try k_fold)
  refine letMA ?_
  intro M9 A9
  k_steps
  refine Hold.mk ?_
  k_dflt (refine' next_u ?k1 ?k2 ?k3 ?k4 ?k5 ?N ?U ?S ?d ?u ?t1 ?t2 ?_; (case k1 => k_asm); (case k2 => k_asm); (case k3 => k_asm); (case k4 => k_asm); (case k5 => first | exact rfl | assumption); (case N => k_asm); (case U => k_updF); (case S => k_asm); (case d => k_room); (case u => k_units); (case t1 => first | decide | omega); (case t2 => first | decide | omega))
  intro low tlow ha ka oa hl0 hl1 hSa Fa Na
  (try dsimp only at Na ⊢)
  (try k_sweep)
  (try k_fold)
  k_steps
  refine Hold.mk ?_
  k_dflt (refine' next_u ?k1 ?k2 ?k3 ?k4 ?k5 ?N ?U ?S ?d ?u ?t1 ?t2 ?_; (case k1 => k_asm); (case k2 => k_asm); (case k3 => k_asm); (case k4 => k_asm); (case k5 => first | exact rfl | assumption); (case N => k_asm); (case U => k_updF); (case S => k_asm); (case d => k_room); (case u => k_units); (case t1 => first | decide | omega); (case t2 => first | decide | omega))
  intro sh tsh hb kb ob hs0 hs1 hSb Fb Nb
  (try dsimp only at Nb ⊢)
  (try k_sweep)
  (try k_fold)
  k_steps
  refine Hold.mk ?_
  k_dflt (refine' next_u ?k1 ?k2 ?k3 ?k4 ?k5 ?N ?U ?S ?d ?u ?t1 ?t2 ?_; (case k1 => k_asm); (case k2 => k_asm); (case k3 => k_asm); (case k4 => k_asm); (case k5 => first | exact rfl | assumption); (case N => k_asm); (case U => k_updF); (case S => k_asm); (case d => k_room); (case u => k_units); (case t1 => first | decide | omega); (case t2 => first | decide | omega))
  intro hg thg hc kc oc2 hh0 hh1 hSc Fc Nc
  (try dsimp only at Nc ⊢)
  (try k_sweep)
  (try k_fold)
  k_steps
  refine Hold.mk ?_
  k_dflt (refine' pick_u ?k1 ?k2 ?k3 ?k4 ?k5 ?N ?U ?S ?m ?ne ?d ?u ?t1 ?t2 ?_; (case k1 => k_asm); (case k2 => k_asm); (case k3 => k_asm); (case k4 => k_asm); (case k5 => first | exact rfl | assumption); (case N => k_asm); (case U => k_updF); (case S => k_asm); (case m => k_mem); (case ne => k_ne); (case d => k_room); (case u => k_units); (case t1 => exact Nat.zero_lt_succ _); (case t2 => simp only [List.length_cons, List.length_nil]; omega))
  intro v h9 tk9 o9 hv hS9 F9 N9
  (try dsimp only at N9 ⊢)
  (try k_sweep)
  obtain ⟨mo, tmo, rfl, hmo0, hmo1⟩ := most_mem hv
  clear hv
  (try k_fold)
  k_steps
  refine Hold.mk ?_
  k_dflt (refine' curve_new ?k1 ?k2 ?k3 ?k4 ?k5 ?N ?cb0 ?cb1 ?cb2 ?cb3 ?d ?u ?_; (case k1 => k_asm); (case k2 => k_asm); (case k3 => k_asm); (case k4 => k_asm); (case k5 => first | exact rfl | assumption); (case N => k_asm); (case cb0 => exact hl0); (case cb1 => omega); (case cb2 => exact hmo0); (case cb3 => exact hmo1); (case d => k_room); (case u => k_units))
  intro cx cdx kc1 kc2 kc3 hA tkA FA NA lA1 lA2
  (try k_lt lA1)
  (try k_lt2 lA2)
  (try dsimp only at NA ⊢)
  (try k_sweep)
  (try k_fold)
  k_steps
  refine Hold.mk ?_
  k_dflt (refine' avg_new ?k1 ?k2 ?k3 ?k4 ?k5 ?N ?d ?u ?_; (case k1 => k_asm); (case k2 => k_asm); (case k3 => k_asm); (case k4 => k_asm); (case k5 => first | exact rfl | assumption); (case N => k_asm); (case d => k_room); (case u => k_units))
  intro ax adx ka1 ka2 ta2 hB tkB FB NB lB1 lB2
  (try k_lt lB1)
  (try k_lt2 lB2)
  (try dsimp only at NB ⊢)
  (try k_sweep)
  (try k_fold)
  k_steps
  refine Hold.mk ?_
  k_dflt (refine' next_u ?k1 ?k2 ?k3 ?k4 ?k5 ?N ?U ?S ?d ?u ?t1 ?t2 ?_; (case k1 => k_asm); (case k2 => k_asm); (case k3 => k_asm); (case k4 => k_asm); (case k5 => first | exact rfl | assumption); (case N => k_asm); (case U => k_updF); (case S => k_asm); (case d => k_room); (case u => k_units); (case t1 => first | decide | omega); (case t2 => first | decide | omega))
  intro st tst hd kd od ht0 ht1 hSd Fd Nd
  (try dsimp only at Nd ⊢)
  (try k_sweep)
  (try k_fold)
  k_steps
  refine Hold.mk ?_
  rename Fr g1 L1 _ _ => FR
  rename News g1 L1 _ _ => NR
  generalize hhi : low + 1 + hg = high at *
  have hlh : low < high := by omega
  obtain ⟨n, hn⟩ : ∃ n : Nat, Builtin.Range.rangeSize 0 (high + 3) (1 + st) = (n : Int) := by
    exact Int.eq_ofNat_of_zero_le (size_nn (by omega))
  have n1 : @Ne Nat ax src := by k_ne
  have n2 : @Ne Nat adx src := by k_ne
  have n3 : @Ne Nat cx src := by k_ne
  have n4 : @Ne Nat cdx src := by k_ne
  have n5 : @Ne Nat (L1 + 1) src := by k_ne
  have n6 : @Ne Nat ax adx ∧ @Ne Nat ax cx ∧ @Ne Nat adx cx ∧ @Ne Nat ax cdx ∧ @Ne Nat adx cdx ∧ @Ne Nat adx (L1 + 1) := ⟨by k_ne, by k_ne, by k_ne, by k_ne, by k_ne, by k_ne⟩
  have n7 : ∀ p ∈ rest, @Ne Nat p.1 adx := ne_adx (by assumption)
  refine gl fun G9 hG9 => ?_
  obtain ⟨NW, BX, NX, hSW, hBX, b1, b2, b3, b4, b5, b6⟩ := curve_start NR hSd e1 n1 n2 n3 n4 n5
  refine hG9 ?_
  clear hG9 G9
  have hBW : ∀ p ∈ BX, p ∈ NW := fun p hp => (hBX p hp).1
  have hBs : ∀ p ∈ BX, @Ne Nat p.1 src := fun p hp => (hBX p hp).2
  clear NR hBX
  refine my_range (n := n) (fun i m₁ nx => CInv prog w src cx ax BX low sh high mo st tlow tsh i m₁ nx) (by rfl) (by assumption) (by exact small_st (by omega) (by omega) (by omega) (by omega)) hn FR NX ⟨0, _, _, _, rfl, rfl, rfl, rfl, rfl, rfl, rfl, hSW, hBW, Int.le_refl _, fun lev _ => share_nn hmo0 hlh⟩ ?_ ?_
  rotate_left
  · rintro m₁ nx h tk HH9 FE NE
    refine gl fun G9 hG9 => ?_
    obtain ⟨lst, tl, th, tm, q1', q2', q3', q4', q5', q6', q7', hs1, hb1, hl0', hmon⟩ := HH9
    refine hG9 ?_
    clear hG9 G9
    have FX := FE
    replace FX : Fr g1 L1 h _ := FX
    replace NE : News g1 L1 h nx := NE
    clear FE FR NX hSW hBW hmon hl0'
    have ma := hb1 _ b1
    have mad := hb1 _ b2
    have mcell := hb1 _ b5
    k_steps
    refine Hold.mk (LCg.CompSrc.range (a := 0) (b := 7) (n := 7) (by rfl) (by k_asm) (by k_asm) (by assumption) (by decide) (by decide) (by rw [sizeLine_eq]; decide) fun g => ?_)
    refine rest_start (fun _ i ys nw => LevJ prog w src BX i ys nw) ⟨hs1, hb1, [], .nil, rfl, fun _ h => (nomatch h)⟩ ?_ ?_
    rotate_left
    · rintro i v ys nw I oI C oC D m₂ h tk E' hi1 ⟨tv, rfl⟩ J hC hx' F9 N9 off ne
      have mcell2 := J.2.1 _ b5
      k_steps
      rename News g1 L1 _ _ => NX
      refine Hold.mk ?_
      k_dflt (refine' next_m ?k1 ?k2 ?k3 ?k4 ?k5 ?N ?S ?d ?u ?t1 ?t2 ?_; (case k1 => k_asm); (case k2 => k_asm); (case k3 => k_asm); (case k4 => k_asm); (case k5 => first | exact rfl | assumption); (case N => k_asm); (case S => exact J.1.up.up.up); (case d => k_room); (case u => k_units); (case t1 => first | decide | omega); (case t2 => first | decide | omega))
      intro tr ttr h12 tk12 nw12 hr50 hr51 hs12 hk12 F12 N12
      (try dsimp only at N12 ⊢)
      (try k_fold)
      k_steps
      rename News g1 L1 _ _ => NZ
      refine Hold.mk (lev_step (by k_asm) NZ J off hBs hs12 hk12 hr50 hr51)
    rintro yv nw HH9 so3 h9 tk9 F9 N9 o9
    refine gl fun G9 hG9 => ?_
    obtain ⟨hs2, hb2, ls, hy, hlen, hls⟩ := HH9
    refine hG9 ?_
    clear hG9 G9
    have o10 := off1_mem o9
    have n8 : @Ne Nat adx so3 := o10 _ (hb2 _ b2)
    have n9 : @Ne Nat ax so3 := o10 _ (hb2 _ b1)
    clear o9
    k_steps
    refine Hold.mk ?_
    rename Fr g1 L1 _ _ => FR
    rename News g1 L1 _ _ => NR
    refine gl fun G9 hG9 => ?_
    obtain ⟨RR, pk1, pk2, pt1, pt2, NX, r1, r2, r3, r4, r5⟩ := lev_start NR hs2 hb2 n2 n6.1 n8 b1 b2
    refine hG9 ?_
    clear hG9 G9
    have hyl : 0 < yv.length := by have := IntsAre.length hy; omega
    refine kdl_iter (vs := yv) (nn := yv.length) (fun i m₁ nx => PInv w adx ax so3 RR ls sh pk1 pt1 tsh m₁ nx) rfl (List.mem_cons_of_mem _ r3) FR NX ⟨0, pt2, _, pk2, rfl, (by walk_at "look"), (by walk_at "look"), (by walk_at "look"), (by walk_at "look"), Int.le_refl _, fun M hM => parts0 hls hlen hM⟩ ?_ ?_
    · rintro i v m₁ nx h tk own hv hoff hl1 HH9 FT NT
      refine gl fun G9 hG9 => ?_
      obtain ⟨pa, tpa, tp, pk3, rfl, q1', q2', q3', q4', hp0, hpM⟩ := HH9
      refine hG9 ?_
      clear hG9 G9
      obtain ⟨lv, tlv, rfl, hlv⟩ := ints_at hy hv
      have hlv2 := hls lv hlv
      have FX := FT
      replace FX : Fr g1 L1 h _ := FX
      have NX2 : News g1 L1 h ((adx, dictOf [ent w "shift" pk1 (.int sh pt1), ent w "parts" pk3 (.int pa tpa)] 2) :: (RR ++ own)) := NT
      clear FT FR NX NT
      have hoff2 := hoff
      have s1 : ∀ p ∈ RR, p ∈ RR ++ own := fun p hp => List.mem_append_left _ hp
      have s2 : ∀ p ∈ own, p ∈ RR ++ own := fun p hp => List.mem_append_right _ hp
      have s3 : ∀ p ∈ RR ++ own, p.1 ≠ adx := fun p hp => by
        rcases List.mem_append.mp hp with hp | hp
        · exact r5 p hp
        · exact hoff p hp adx (by simp)
      have max2 := s1 _ r1
      have mls2 := s1 _ r3
      generalize RR ++ own = R2 at *
      have hq0 : 0 ≤ pa.fdiv (2 ^ sh.toNat) := fdiv_nonneg' hp0 (Int.pow_pos (by decide))
      have hpn := parts_nn (lv := lv) (n := sh.toNat) hp0 hlv2.1
      have hpM2 : ∀ M : Int, (∀ y ∈ ls, y ≤ M) → pa + lv - pa.fdiv (2 ^ sh.toNat) < (M + 1) * 2 ^ sh.toNat := fun M hM => parts_lt hp0 (hM lv hlv) (hpM M hM)
      k_steps
      refine Hold.mk ?_
      k_dflt (refine' told_c (news := R2) (lv := lv) ?k1 ?k2 ?k3 ?k4 ?k5 ?N ?tx ?tn ?t0 ?t1 ?d ?u ?_; (case k1 => k_asm); (case k2 => k_asm); (case k3 => k_asm); (case k4 => k_asm); (case k5 => first | exact rfl | assumption); (case N => k_asm); (case tx => exact max2); (case tn => exact s3); (case t0 => omega); (case t1 => omega); (case d => k_room); (case u => k_units))
      intro tt tt2 pk4 h5 tk5 F5 N5
      (try dsimp only at N5 ⊢)
      (try k_sweep)
      (try k_fold)
      k_steps
      · refine Hold.mk (my_max2 (by rfl) (by k_asm) (by k_asm) (by k_mem) hy hyl fun xm txm hm tkm hmem hle Fm Nm => ?_)
        (try dsimp only at Nm ⊢)
        (try k_fold)
        have hgt : ¬ (pa + lv - pa.fdiv (2 ^ sh.toNat)).fdiv (2 ^ sh.toNat) > xm := parts_top hpn (hpM2 xm hle)
        k_steps
        rename Fr g1 L1 _ _ => FZ
        rename News g1 L1 _ _ => NZ
        exact lev_end FZ NZ hoff2 s1 s2 fun k9 t9 => ⟨List.mem_cons_of_mem _ r3, _, _, _, _, rfl, (by walk_at "look"), (by walk_at "look"), (by walk_at "look"), (by walk_at "look"), hpn, hpM2⟩
    · rintro m₁ nx h tk HH9 FE NE
      refine gl fun G9 hG9 => ?_
      obtain ⟨pa, tpa, tp, pk3, rfl, q1', q2', q3', q4', hp0, hpM⟩ := HH9
      refine hG9 ?_
      clear hG9 G9
      replace FE : Fr g1 L1 h m₁ := FE
      replace NE : News g1 L1 h ((adx, dictOf [ent w "shift" pk1 (.int sh pt1), ent w "parts" pk3 (.int pa tpa)] 2) :: RR) := NE
      clear FR NX NR
      k_steps
      obtain ⟨so9, hs9, hs8⟩ := r2
      refine ret _ _ so9 hs8 (by k_asm) ?_
      rename News h₀ L _ _ => NZ
      intro p hp
      refine NZ p ?_
      rcases List.mem_cons.mp hp with rfl | hp
      · exact List.mem_cons_of_mem _ hs9
      · exact List.mem_cons_of_mem _ (r4 p (b6 p hp) (n7 p hp))
  · rintro i t m₁ nx h tk I oI hin hcI hI HH9 FT NT
    refine gl fun G9 hG9 => ?_
    obtain ⟨lst, tl, th, tm, q1', q2', q3', q4', q5', q6', q7', hs1, hb1, hl0', hmon⟩ := HH9
    refine hG9 ?_
    clear hG9 G9
    have FX := FT
    replace FX : Fr g1 L1 h _ := FX
    replace NT : News g1 L1 h ((I, oI) :: nx) := NT
    clear FT FR NX hSW hBW
    have hs2 : SrcIn prog w ((I, oI) :: nx) src := hs1.up
    have hsI : @Ne Nat I src := by obtain ⟨so, c1, _⟩ := hs1; exact Ne.symm (hI _ c1)
    have hbI : ∀ p ∈ BX, @Ne Nat p.1 I := fun p hp => hI p (hb1 p hp)
    have hstep : ((i + 1 : Nat) : Int) * (1 + st) = (i : Int) * (1 + st) + (1 + st) := by rw [Int.natCast_add, Int.add_mul]; omega
    generalize hlev : (0 : Int) + (i : Int) * (1 + st) = lev at *
    have hlev2 : (i : Int) * (1 + st) = lev := by omega
    rw [hlev2] at hmon hstep
    have hv := hmon lev (Int.le_refl _)
    have mc := hb1 _ b3
    have mcd := hb1 _ b4
    have mcell := hb1 _ b5
    clear hmon hs1 hlev hlev2
    generalize hsf : shareF low high mo lev = sf at *
    k_steps
    refine Hold.mk ?_
    k_dflt (refine' share_c (lev := lev) ?k1 ?k2 ?k3 ?k4 ?k5 ?N ?sx ?sd ?s0 ?s1 ?s2 ?s3 ?s4 ?d ?u ?_; (case k1 => k_asm); (case k2 => k_asm); (case k3 => k_asm); (case k4 => k_asm); (case k5 => first | exact rfl | assumption); (case N => k_asm); (case sx => exact List.mem_cons_of_mem _ mc); (case sd => exact List.mem_cons_of_mem _ mcd); (case s0 => exact hl0); (case s1 => exact hlh); (case s2 => exact hmo0); (case s3 => exact hmo1); (case s4 => omega); (case d => k_room); (case u => k_units))
    intro ts hC tkC FC NC
    rw [hsf]
    (try dsimp only at NC ⊢)
    (try k_sweep)
    (try k_fold)
    k_steps
    rename Fr g1 L1 _ _ => FX2
    rename News g1 L1 _ _ => NX2
    refine Hold.mk (join_int s sf FX2 NX2 ?_ ?_)
    · have sm1 : Sm mo := sm_mid (by omega)
      have hdp0 : 0 < high - low := by omega
      by_cases h1 : lev ≤ low
      · have ev : sf = 0 := hsf ▸ if_pos h1
        clear hsf
        subst ev
        k_steps
        exact Hold.mk ⟨_, _, _, rfl, rfl, FX2, NX2⟩
      · by_cases h2 : lev ≥ high
        · have ev : sf = 10000 := hsf ▸ (by unfold shareF; rw [if_neg h1, if_pos h2])
          clear hsf
          subst ev
          k_steps
          exact Hold.mk ⟨_, _, _, rfl, rfl, FX2, NX2⟩
        · have ev : sf = (mo * (lev - low)).fdiv (high - low) := hsf ▸ (by unfold shareF; rw [if_neg h1, if_neg h2])
          have sm2 : Sm (lev - low) := sm_mid (by omega)
          clear hsf
          subst ev
          k_steps
          exact Hold.mk ⟨_, _, _, rfl, rfl, FX2, NX2⟩
    intro td hD tkD FD ND
    clear FX2 NX2
    have hne0 : ¬ sf ≠ sf := fun h => h rfl
    have hne1 : (sf != sf) = false := by simp
    have hne2 : (!(sf == sf)) = false := by simp
    have hne3 : decide (sf ≠ sf) = false := by simp
    have hne4 : (!decide (sf = sf)) = false := by simp
    k_steps
    rename News g1 L1 _ _ => NX
    refine Hold.mk ?_
    k_dflt (refine' next_m ?k1 ?k2 ?k3 ?k4 ?k5 ?N ?S ?d ?u ?t1 ?t2 ?_; (case k1 => k_asm); (case k2 => k_asm); (case k3 => k_asm); (case k4 => k_asm); (case k5 => first | exact rfl | assumption); (case N => k_asm); (case S => exact hs2); (case d => k_room); (case u => k_units); (case t1 => first | decide | omega); (case t2 => first | decide | omega))
    intro tr ttr h12 tk12 nw12 hr50 hr51 hs12 hk12 F12 N12
    (try dsimp only at N12 ⊢)
    (try k_fold)
    have hI12 : (I, oI) ∈ nw12 := hk12 _ (List.mem_cons_self ..) (fun e => hsI (List.mem_singleton.mp e))
    have hb12 : ∀ p ∈ BX, p ∈ nw12 := fun p hp => hk12 _ (List.mem_cons_of_mem _ (hb1 p hp)) (fun e => hBs p hp (List.mem_singleton.mp e))
    clear NX hs2 hk12 mc mcd mcell
    have mc := hb12 _ b3
    have mcd := hb12 _ b4
    have mcell := hb12 _ b5
    have fin : ∀ lev' : Int, ((i + 1 : Nat) : Int) * (1 + st) ≤ lev' → sf ≤ shareF low high mo lev' := fun lev' hl' => by
      rw [← hsf]; exact share_mono hmo0 hmo1 hlh (by rw [hstep] at hl'; omega)
    have hsn : 0 ≤ sf := by rw [← hsf]; exact share_nn hmo0 hlh
    have hz1 : (decide (tr < sf) != decide (tr < sf)) = false := by simp
    have hz2 : (!(decide (tr < sf) == decide (tr < sf))) = false := by simp
    k_steps
    refine Hold.mk ?_
    k_dflt (refine' drops_c (lev := lev) ?k1 ?k2 ?k3 ?k4 ?k5 ?N ?sx ?sd ?s0 ?s1 ?s2 ?s3 ?s4 ?d ?u ?_; (case k1 => k_asm); (case k2 => k_asm); (case k3 => k_asm); (case k4 => k_asm); (case k5 => first | exact rfl | assumption); (case N => k_asm); (case sx => k_mem); (case sd => k_mem); (case s0 => exact hl0); (case s1 => exact hlh); (case s2 => exact hmo0); (case s3 => exact hmo1); (case s4 => omega); (case d => k_room); (case u => k_units))
    intro hE tkE FE9 NE9
    rw [hsf]
    (try dsimp only at NE9 ⊢)
    (try k_sweep)
    (try k_fold)
    k_steps
    rename News g1 L1 _ _ => NZ
    have NZ2 : News g1 L1 _ nw12 := cb_drop NZ fun p hp => List.mem_cons_of_mem _ hp
    exact my_end (by k_asm) NZ2 hI12 ⟨sf, _, _, _, (by walk_at "look"), (by walk_at "look"), (by walk_at "look"), (by walk_at "look"), (by walk_at "look"), (by walk_at "look"), (by walk_at "look"), hs12.offI (Ne.symm hsI), fun p hp => List.mem_filter.mpr ⟨hb12 p hp, by simpa using hbI p hp⟩, hsn, fin⟩
end

theorem ln35 : True := by
  k_with "off66" => skip
  trivial
end Part24
section Part25
theorem wo25 : True := by
  w_top off
  trivial
section
variable {prog : Program} {w : World} {A : Around} {E : Value → Shared → Prop} {h : Heap} {g : Array GenState} {d : Drawn} {t : Nat} {os : OsState}
variable {nm q : Str} {C N fI : Addr} {bs bm : List Value} {hdct : Bool} {sn : List Str} {sub : List Value} {ab : Bool} {col : Option Bool} {dd : Option Addr} {k0 k1 k2 k3 k5 : Option Value}
/-- what the tail of an exception class of two steps bears -/
structure TailOk (bm : List Value) : Prop where
  exc : bm.contains (.type "Exception") = true
  base : bm.contains (.type "BaseException") = true
  attr : bm.contains (.type "AttributeError") = false
  name : bm.contains (.type "NameError") = false
set_option maxHeartbeats 4000000
theorem two_check (T : TailOk bm) {M : Model} {rest : List Value} {Q : Unit → Shared → Prop} (hC : h.get? C = some (excClassObj nm q C N bs bm hdct sn sub ab col dd k0 k1 k2 k3 k5 "Exception.__new__"))
    (hq : Q () ⟨h, g, d, t, os⟩) : wpAny M A (checkBuiltinCall "Exception.__new__" ⟨.ref C :: rest, []⟩) Q E ⟨h, g, d, t, os⟩ := by
  have hin : (Value.ref C :: bm).contains (.type "Exception") = true := by rw [List.contains_cons, T.exc, Bool.or_true]
  have F := PySem.F.excBase_Exception
  have hst := F.noStar
  simp only [checkBuiltinCall, F.newKind, F.newSplit, F.newRow]
  repeat (first | refine wpAny_loadPart_at hC ?_ | (refine wpAny_isSubtype_exc hC ?_; rw [hin]) | refine wpAny_staticBase_exc hC ?_ | refine wpAny_madeBy_exc hC ?_ | simp only [bne_self_eq_false, Bool.false_eq_true, if_false] | wp_step)
  exact hq
theorem two_new (T : TailOk bm) {R : Result → Shared → Prop} {rest : List Value} (hC : h.get? C = some (excClassObj nm q C N bs bm hdct sn sub ab col dd k0 k1 k2 k3 k5 "Exception.__new__"))
    (hq : R (.ok (.ret (.ref (h.objs.size + 1)))) ⟨(h.push { cls := .type "tuple", data := .seq rest.toArray }).push
      { cls := .ref C, data := .fields #[.ref h.objs.size, .none, .none, .none, .bool false, .none] }, g, d, t, os⟩) (hrest : rest.length ≤ sizeLine) :
    codeAny (model prog w) A (.builtin "Exception.__new__" ⟨.ref C :: rest, []⟩) R ⟨h, g, d, t, os⟩ := by
  have F := PySem.F.excBase_Exception
  have hends := F.ends
  have hin : (Value.ref C :: bm).contains (.type "Exception") = true := by rw [List.contains_cons, T.exc, Bool.or_true]
  have hat : (Value.ref C :: bm).contains (.type "AttributeError") = false := by rw [List.contains_cons, T.attr]; rfl
  have hnm : (Value.ref C :: bm).contains (.type "NameError") = false := by rw [List.contains_cons, T.name]; rfl
  refine codeAny_builtinAt F.entry ?_
  unfold Builtin.«BaseException.__new__»
  refine PySem.wpAt_bind ?_
  show PySem.wpAt _ _ _ (stack >>= _) _ _ _
  refine PySem.wpAt_bind (PySem.wpAt_stack fun p below => PySem.wpAt_of_wpAny ?_)
  wp_walk
  refine PySem.wpAt_of_wpAny ?_
  rw [F.owner]
  repeat (first | with_reducible refine wpAny_madeHere_exc F.canon hC ?_ | with_reducible refine wpAny_loadPart_at hC ?_ | (with_reducible refine wpAny_isSubtype_exc hC ?_; first | rw [hin] | rw [hat] | rw [hnm]) | wp_step)
  show R _ _
  rw [Heap.size_push]
  exact hq
theorem two_typecall (T : TailOk bm) {K : Frag} {oI : Obj} {rest : List Value} {Q : Fin → Shared → Prop} (X : K.In h)
    (hC : h.get? C = some (excClassObj nm q C N bs bm hdct sn sub ab col dd k0 k1 k2 k3 k5 "Exception.__new__")) (hi : findIn K (.ref C) "__init__" = some (some (.ref fI))) (hfI : h.get? fI = some oI) (hfc : oI.cls = .type "function")
    (hq : ∀ h' e, Heap.MadeExcOf h h' e (.ref C) rest → wpAny (model prog w) A (call (.ref fI) (.ref e :: rest)) (fun r s' => r = .none ∧ Q (.done (.ret (.ref e))) s') E ⟨h', g, d, t, os⟩) (hrest : rest.length ≤ sizeLine) :
    wpAny (model prog w) A (Builtin.«type.__call__» ⟨.ref C :: rest, []⟩) Q E ⟨h, g, d, t, os⟩ := by
  have F := PySem.F.excBase_Exception
  repeat (first | with_reducible refine wpAny_loadPart_at hC ?_ | with_reducible refine wpAny_madeBy_exc hC ?_ | wp_step)
  refine codeAny_call_builtin_code (Code.quiet_builtin _ F.quiet) (two_check T hC ?_)
  refine two_new T hC ?_ hrest
  show wpAny _ _ _ _ _ _
  have up : ∀ b o, h.get? b = some o → ((h.push { cls := .type "tuple", data := .seq rest.toArray }).push { cls := .ref C, data := .fields #[.ref h.objs.size, .none, .none, .none, .bool false, .none] }).get? b = some o := fun b o e => Heap.get?_push_of_some _ (Heap.get?_push_of_some _ e)
  have hget : ((h.push { cls := .type "tuple", data := .seq rest.toArray }).push
      { cls := .ref C, data := .fields #[.ref h.objs.size, .none, .none, .none, .bool false, .none] }).get? (h.objs.size + 1) = some
      { cls := .ref C, data := .fields #[.ref h.objs.size, .none, .none, .none, .bool false, .none] } := by heap_get
  have hcC : (Value.ref C :: bm).contains (.ref C) = true := by simp
  have hC₁ := up _ _ hC
  have L := looks_findIn (M := model prog w) X hi
  unfold isInstance
  repeat (first | with_reducible refine wpAny_loadPart_at hget ?_ | (with_reducible refine wpAny_isSubtype_exc hC₁ ?_; rw [hcC]) | wp_step)
  show wpAny _ _ (typeLookup (.ref C) _) _ _ _
  refine L _ _ _ _ up ?_
  refine wpAny_holding (wpAny_bind ?_)
  unfold bindSpecial
  refine wpAny_bind (wpAny_typeOf (T := "function") ⟨_, up _ _ hfI, hfc⟩ ?_)
  rw [if_pos (by decide)]
  refine wpAny_pure (wpAny_bind (wpAny_mono (hq _ (h.objs.size + 1) ⟨up, Heap.get?_none_of_le (Nat.le_succ _), h.objs.size, hget, Heap.get?_none_of_le (Nat.le_refl _), Heap.get?_push_of_some _ (Heap.get?_push_at rfl rfl)⟩) (fun r s' hr => ?_) fun _ _ x => x))
  obtain ⟨rfl, hQ⟩ := hr
  wp_walk
  exact hQ
theorem two_call (T : TailOk bm) {K : Frag} {oI : Obj} {rest : List Value} {Q : Value → Shared → Prop} (X : K.In h)
    (hC : h.get? C = some (excClassObj nm q C N bs bm hdct sn sub ab col dd k0 k1 k2 k3 k5 "Exception.__new__")) (hi : findIn K (.ref C) "__init__" = some (some (.ref fI))) (hfI : h.get? fI = some oI) (hfc : oI.cls = .type "function")
    (hq : ∀ h' e, Heap.MadeExcOf h h' e (.ref C) rest → wpAny (model prog w) (A.under (.builtin "type.__call__" ⟨.ref C :: rest, []⟩)) (call (.ref fI) (.ref e :: rest)) (fun r s' => r = .none ∧ Q (.ref e) s') E ⟨h', g, d, t, os⟩) (hrest : rest.length ≤ sizeLine) :
    wpAny (model prog w) A (call (.ref C) rest) Q E ⟨h, g, d, t, os⟩ := by
  have f1 := tc_lookup
  have f2 := tc_bind (.ref C)
  have hT : (⟨h, g, d, t, os⟩ : Shared).TypeIs (.ref C) "type" := ⟨_, hC, rfl⟩
  refine wpAny_call (codeAny_of_tree ?_)
  show wpAny _ _ (callAny (.ref C) _) _ _ _
  repeat (any_goals (first | assumption | with_reducible refine wpAny_loadPart_at hC ?_ | wp_step))
  refine ⟨rfl, ?_⟩
  exact codeAny_call_builtin_at (Code.quiet_builtin _ (by decide +kernel)) entry_typeCall (wpAny_check_type_call_sub hC (two_typecall T X hC hi hfI hfc hq hrest))
end

section
variable {h : Heap} {g : Array GenState} {d : Drawn} {t : Nat} {os : OsState} {A : Around} {E : Value → Shared → Prop}
variable {nm q : Str} {C N : Addr} {bs bm : List Value} {hdct : Bool} {sn : List Str} {sub : List Value} {ab : Bool} {col : Option Bool} {dd : Option Addr} {k0 k1 k2 k3 k5 : Option Value} {newId : String}
theorem two_checkInit {B newId' initId : String} {bmB : List Value} (F : ExcBaseFacts B newId' initId bmB) (hb : bm.contains (.type B) = true) {M : Model} {e : Addr} {oe : Obj} {rest : List Value} {Q : Unit → Shared → Prop}
    (hC : h.get? C = some (excClassObj nm q C N bs bm hdct sn sub ab col dd k0 k1 k2 k3 k5 newId)) (he : h.get? e = some oe) (hcls : oe.cls = .ref C) (hq : Q () ⟨h, g, d, t, os⟩) :
    wpAny M A (checkBuiltinCall initId ⟨.ref e :: rest, []⟩) Q E ⟨h, g, d, t, os⟩ := by
  have hin : (Value.ref C :: bm).contains (.type B) = true := by rw [List.contains_cons, hb, Bool.or_true]
  have hst := F.noStar
  simp only [checkBuiltinCall, F.initKind, F.initSplit, F.initRow]
  repeat (first | (with_reducible refine wpAny_loadPart_at he ?_; rw [hcls]) | with_reducible refine wpAny_loadPart_at hC ?_ | (with_reducible refine wpAny_isSubtype_exc hC ?_; rw [hin]) | wp_step)
  refine wpAny_onRaise ?_
  rw [show ∀ (x y : String) (n : Nat), Bind.check ⟨.positional, "*", B, .self, [⟨"args", .varPos, false⟩]⟩ x y n (List.map (fun x => x.fst) ({ pos := Value.ref e :: rest } : Args).kw) = pure () from
    fun x y n => check_star_args _ _ _ _ _ _]
  exact wpAny_pure hq
end
/-- an exception as it is made -/
noncomputable abbrev excO (C : Addr) (od : Option Addr) (t : Addr) : Obj := { cls := .ref C, dict := od, data := .fields #[.ref t, .none, .none, .none, .bool false, .none] }
section
variable {prog : Program} {w : World} {A : Around} {E : Value → Shared → Prop} {s : Shared} {K : Frag} {C e L : Addr} {h₀ : Heap} {m : Str → Option Value} {pre post : List (Addr × Obj)} {R : Result → Shared → Prop}
variable {nm q : Str} {N' : Addr} {bs bm : List Value} {hdct : Bool} {sn : List Str} {sub : List Value} {ab : Bool} {col : Option Bool} {dd : Option Addr} {k0 k1 k2 k3 k5 : Option Value} {newId : String}
theorem two_init {B newId' initId : String} {bmB : List Value} (FX : ExcBaseFacts B newId' initId bmB) (hb : bm.contains (.type B) = true) (X : K.In h₀) (hC : K.lookup C = some (excClassObj nm q C N' bs bm hdct sn sub ab col dd k0 k1 k2 k3 k5 newId))
    (F : Fr h₀ L s.heap m) {od : Option Addr} {tp : Addr} {v : Value} (N : News h₀ L s.heap (pre ++ (e, excO C od tp) :: post)) (h1 : ∀ p ∈ pre, p.1 ≠ e) (h2 : ∀ p ∈ post, p.1 ≠ e) {Q : Value → Shared → Prop}
    (h : ∀ h' t', Fr h₀ L h' m → News h₀ L h' (pre ++ (e, excO C od t') :: post) → Q .none { s with heap := h' }) :
    wpAny (model prog w) A (call (.builtin initId) [.ref e, v]) Q E s := by
  have he := (N (e, excO C od tp) (by simp)).1
  have hC' := X.keeps F.keep _ _ hC
  refine gl fun G9 hG9 => ?_
  obtain ⟨hh, g, d, tk, os⟩ := s
  refine hG9 ?_
  clear hG9 G9
  dsimp only at he hC'
  refine wpAny_call (codeAny_call_builtin FX.init.plain FX.initEntry (two_checkInit FX hb hC' he rfl ?_))
  wp_walk
  have F₁ := F.push (o := { cls := .type "tuple", data := Data.seq #[v] })
  have N₁ := N.push F { cls := .type "tuple", data := Data.seq #[v] }
  have up : ∀ p ∈ pre ++ (e, excO C od tp) :: post, p ∈ (hh.objs.size, ({ cls := .type "tuple", data := Data.seq #[v] } : Obj)) :: (pre ++ (e, excO C od tp) :: post) := fun p hp => List.mem_cons_of_mem _ hp
  obtain ⟨F₂, N₂⟩ := news_upd (f := Obj.mapFields fun x => x.setIfInBounds 0 (Value.ref hh.objs.size)) (o' := excO C od hh.objs.size) F₁ (fun p hp => N₁ p (up p hp)) h1 h2 rfl rfl
  exact h _ _ F₂ N₂
open Builtin Builtin.ObjectAttr
variable {x : Addr}
theorem freed_dict {o : Obj} {es : Array DictEntry} {n : Nat} (h : o.data = .dict es n) : o.isFreed = false := by
  refine gl fun G9 hG9 => ?_
  obtain ⟨_, _, dd, _⟩ := o
  refine hG9 ?_
  clear hG9 G9
  cases h; rfl
theorem osaE {ox : Obj} {od : Option Obj} {name : Str} {tk : Tok} {v : Value} {cd : ClassData} (X : K.In s.heap) (I : InstAt s.heap x ox C od) (hc : clsIn K C = some cd) (hr : ∀ self, refuseLoop self "__setattr__" cd.mro = pure ()) (ho : mroIn K C (.type "object") = some true) (ht : takerIn K C name = some none)
    (h : ∀ b, wpAny (model prog w) A.in1 (storeInOwnDict (.ref x) (.ref C) (.str name tk) name v b)
      (fun fin s' => match fin with | .done f => R (.ok f) s' | .again c' => c'.quiet = true ∧ codeAny (model prog w) A c' R s') (fun e s' => R (.error e) s') s) :
    codeAny (model prog w) A (.call (.builtin "object.__setattr__") ⟨[.ref x, .str name tk, v], []⟩) R s := by
  have SF := PySem.F.store_object
  have sub : Looks (model prog w) s.heap (isInstance (.ref x) (.type "object")) true := I.type.andThen (looks_mroIn X ho)
  refine codeAny_call_builtin SF.slot.plain SF.entry (@check_slot (model prog w) _ _ s "object.__setattr__" "object" "__setattr__" (.ref x) [.str name tk, v] [] _ SF.kind SF.split sub (SF.args (.ref x) (.str name tk) v) ?_)
  obtain ⟨attr, ha, hq⟩ := Option.bind_eq_some_iff.mp ht
  have lm : Looks (model prog w) s.heap (mroOf (.ref C)) cd.mro := (looks_clsIn X hc).andThen .now
  have lt : Looks (model prog w) s.heap (storeTaker? attr) none := by
    cases attr with
    | none => exact .now
    | some a =>
      obtain ⟨b, hb, hn⟩ := Option.map_eq_some_iff.mp hq
      refine (looks_takesIn X hb).andThen ?_
      cases b with
      | false => exact .now
      | true => cases hn
  rw [osa_eq, refuse_eq]
  refine wpAny_bind (wpAny_bind (I.type.here (wpAny_bind (lm.here ?_))))
  rw [hr]
  refine wpAny_pure (wpAny_bind (I.type.here (wpAny_bind ((looks_findIn X ha).here (wpAny_bind (lt.here ?_))))))
  exact h _
theorem excStore1 {tp : Addr} {name : Str} {v : Value} {cd : ClassData} {Q : Unit → Shared → Prop} (X : K.In h₀) (F : Fr h₀ L s.heap m) (N : News h₀ L s.heap (pre ++ (e, excO C none tp) :: post)) (h1 : ∀ p ∈ pre, p.1 ≠ e) (h2 : ∀ p ∈ post, p.1 ≠ e)
    (hs : findIn K (.ref C) "__setattr__" = some (some (.builtin "object.__setattr__"))) (hc : clsIn K C = some cd) (hd : cd.hasDict = true) (hr : ∀ self, refuseLoop self "__setattr__" cd.mro = pure ()) (ho : mroIn K C (.type "object") = some true) (ht : takerIn K C name = some none)
    (h : ∀ h' d k, Fr h₀ L h' m → News h₀ L h' ((d, (emptyDict.putName name (PyData.keyHash w.params name) (.str name k) v)) :: (pre ++ (e, excO C (some d) tp) :: post)) → (∀ p ∈ pre ++ (e, excO C (some d) tp) :: post, p.1 < d) → Q () { s with heap := h', toks := s.toks + 2 }) :
    wpAny (model prog w) A (setAttr (.ref e) name v) Q E s := by
  have he := (N (e, excO C none tp) (by simp)).1
  have X' := X.keeps F.keep
  have I : InstAt s.heap e (excO C none tp) C none := ⟨he, rfl, rfl, trivial⟩
  refine gl fun G9 hG9 => ?_
  obtain ⟨hh, g, d, tk, os⟩ := s
  refine hG9 ?_
  clear hG9 G9
  dsimp only at he X' I
  refine set_plain X' I hs (osaE (s := ⟨hh, g, d, tk + 1, os⟩) X' I hc hr ho ht fun b => ?_)
  refine wpAny_bind (wpAny_pure (wpAny_bind (wpAny_bind (wpAny_loadPart he (wpAny_bind ((looks_clsIn X' hc).here ?_))))))
  rw [hd]
  refine wpAny_bind (wpAny_alloc' ?_)
  have F₁ := F.push emptyDict
  have N₁ := N.push F emptyDict
  have hlt : ∀ p ∈ pre ++ (e, excO C none tp) :: post, p.1 < hh.objs.size := fun p hp => Heap.lt_size (N p hp).1
  have hel : e < hh.objs.size := Heap.lt_size he
  obtain ⟨F₂, N₂⟩ := news_upd (pre := (hh.objs.size, emptyDict) :: pre) (f := fun o => { cls := o.cls, dict := some hh.objs.size, data := o.data, slots := o.slots }) (o' := excO C (some hh.objs.size) tp) F₁ N₁ (fun p hp => by
    rcases List.mem_cons.mp hp with rfl | hp
    · exact Nat.ne_of_gt hel
    · exact h1 p hp) h2 rfl rfl
  refine wpAny_bind (wpAny_update' (N₁ (e, excO C none tp) (by simp)).1 ?_)
  refine wpAny_pure ?_
  have hpl : ∀ p ∈ pre ++ (e, excO C (some hh.objs.size) tp) :: post, p.1 < hh.objs.size := fun p hp => by
    rcases List.mem_append.mp hp with hp | hp
    · exact hlt p (List.mem_append_left _ hp)
    · rcases List.mem_cons.mp hp with rfl | hp
      · exact hel
      · exact hlt p (List.mem_append_right _ (List.mem_cons_of_mem _ hp))
  obtain ⟨F₃, N₃⟩ := news_upd (pre := []) (post := pre ++ (e, excO C (some hh.objs.size) tp) :: post) (f := Obj.putName name (PyData.keyHash w.params name) (.str name (tk + 1)) v) F₂ N₂ (fun p hp => nomatch hp) (fun p hp => Nat.ne_of_lt (hpl p hp)) rfl (by rfl)
  refine wpAny_bind (wpAny_pure (wpAny_bind ?_))
  unfold nsSet
  refine wpAny_bind (wpAny_bind (wpAny_askSetting (wpAny_pure (wpAny_bind (wpAny_mkText (wpAny_bind (wpAny_loadPart (N₂ (hh.objs.size, emptyDict) (by simp)).1 ?_)))))))
  dsimp only
  rw [aRefKeyMayBeTheName_at, if_neg (by simp)]
  refine wpAny_updatePart (N₂ (hh.objs.size, emptyDict) (by simp)).1 ?_
  refine wpAny_bind (wpAny_lookBehind (N₃ (hh.objs.size, _) (List.mem_cons_self ..)).1 (by rfl) ?_)
  exact wpAny_pure (h _ _ _ F₃ N₃ hpl)
theorem excStore2 {tp dx : Addr} {od : Obj} {es : List DictEntry} {n : Nat} {name : Str} {v : Value} {cd : ClassData} {Q : Unit → Shared → Prop} (X : K.In h₀) (F : Fr h₀ L s.heap m) (N : News h₀ L s.heap ((dx, od) :: (pre ++ (e, excO C (some dx) tp) :: post))) (h1 : ∀ p ∈ pre ++ (e, excO C (some dx) tp) :: post, p.1 ≠ dx)
    (hs : findIn K (.ref C) "__setattr__" = some (some (.builtin "object.__setattr__"))) (hc : clsIn K C = some cd) (hd : cd.hasDict = true) (hr : ∀ self, refuseLoop self "__setattr__" cd.mro = pure ()) (ho : mroIn K C (.type "object") = some true) (ht : takerIn K C name = some none)
    (hod : od.data = .dict es.toArray n) (hk : es.any (·.refKey) = false) (he' : ∀ k, ∃ es' n', (od.putName name (PyData.keyHash w.params name) (.str name k) v).data = .dict es' n' ∧ es'.size ≤ 1000)
    (h : ∀ h' k, Fr h₀ L h' m → News h₀ L h' ((dx, (od.putName name (PyData.keyHash w.params name) (.str name k) v)) :: (pre ++ (e, excO C (some dx) tp) :: post)) → Q () { s with heap := h', toks := s.toks + 2 }) :
    wpAny (model prog w) A (setAttr (.ref e) name v) Q E s := by
  have he := (N (e, excO C (some dx) tp) (by simp)).1
  have D := (N (dx, od) (by simp)).1
  have X' := X.keeps F.keep
  have I : InstAt s.heap e (excO C (some dx) tp) C (some od) := ⟨he, rfl, rfl, D⟩
  refine gl fun G9 hG9 => ?_
  obtain ⟨hh, g, d, tk, os⟩ := s
  refine hG9 ?_
  clear hG9 G9
  dsimp only at he X' I D
  refine set_plain X' I hs (osaE (s := ⟨hh, g, d, tk + 1, os⟩) X' I hc hr ho ht fun b => ?_)
  refine wpAny_bind (wpAny_pure (wpAny_bind (wpAny_bind (wpAny_loadPart he (wpAny_bind ((looks_clsIn X' hc).here ?_))))))
  rw [hd]
  refine wpAny_pure (a := some dx) ?_
  refine gl fun G9 hG9 => ?_
  obtain ⟨es', n', q1, q2⟩ := he' (tk + 1)
  refine hG9 ?_
  clear hG9 G9
  obtain ⟨F₃, N₃⟩ := news_upd (pre := []) (post := pre ++ (e, excO C (some dx) tp) :: post) (f := Obj.putName name (PyData.keyHash w.params name) (.str name (tk + 1)) v) F N (fun p hp => nomatch hp) h1 rfl (freed_dict q1)
  refine wpAny_bind (wpAny_pure (wpAny_bind ?_))
  unfold nsSet
  refine wpAny_bind (wpAny_bind (wpAny_askSetting (wpAny_pure (wpAny_bind (wpAny_mkText (wpAny_bind (wpAny_loadPart D ?_)))))))
  rw [hod]
  dsimp only
  rw [aRefKeyMayBeTheName_at, if_neg (by rw [List.any_toArray, List.any_toArray, hk]; simp)]
  refine wpAny_updatePart D ?_
  refine wpAny_bind (wpAny_lookBehind (N₃ (dx, _) (List.mem_cons_self ..)).1 (by rw [q1]; exact pastItsLine_dict (by rw [sizeLine_eq]; omega)) ?_)
  exact wpAny_pure (h _ _ F₃ N₃)
end
end Part25
section Part26
theorem wo26 : True := by
  w_top off
  trivial
theorem meta_exc : typeOf (.type "Exception") = pure (.type "type") := by kernel_rfl
theorem ln36 : True := by
  k_with "my getMethod type:Exception" => ((fail_if_success (k_extra "off73")); (k_here; refine' method_type ?F9q79 ?X9q79 ?m9q79 (by decide +kernel) ?e9q79 ?h9q79 ?_; (case F9q79 => k_asm); (case X9q79 => k_asm); (case m9q79 => exact meta_exc); (case e9q79 => k_dflt k_is); (case h9q79 => k_handed)))
  k_with "my call builtin:Exception.__init__" => ((fail_if_success (k_extra "off73")); (k_here; refine Hold.out ?_))
  k_with "my setAttr ref" => ((fail_if_success (k_extra "off73")); (k_here; refine Hold.out ?_))
  k_with "my call ref" => ((fail_if_success (k_extra "off73")); (k_here; refine hold_ref [35] rfl ?_))
  trivial
theorem exc_refuse (self : Value) : refuseLoop self "__setattr__" [.ref 59, .ref 38, .type "Exception", .type "BaseException", .type "object"] = pure () := by
  rw [refuseLoop_ref, refuseLoop_ref]
  exact PySem.F.store_Exception.passes self
section
variable {prog : Program} {w : World} {p : Program} {loose : List Str} {mean : ExcName → Option Value} {mg mb : Str → Option Value}
    {dp un : Nat} {gd : Option (List Code)} {cn : Str} {cs : Scope} {a : Addr} {ccd : Value} {cl : List (Str × Addr)} {outer : List Env} {A₀ : Around} {base h₀ : Heap} {L : Addr} {m : Str → Option Value} {s : Shared} {Q E : Value → Shared → Prop}
    {news : List (Addr × Obj)}
set_option maxHeartbeats 4000000 in
theorem sinit35 {e tp : Addr} {msg : Value} {rest : List (Addr × Obj)}
    (B : Below A₀ base outer h₀) (F : Fr h₀ L s.heap m) (X : (hK w.params).In h₀) (T : Top p loose mean mg mb h₀) (hk : cs.kind = .function) (N : News h₀ L s.heap ((e, excO 59 none tp) :: rest)) (e1 : ∀ p ∈ rest, p.1 ≠ e) (hdp : dp + 60 < recursionLimit) (hun : un + 600 < cLine)
    (ret : ∀ h' tk' d k tp', Fr h₀ L h' m → News h₀ L h' ((d, emptyDict.putName "message" (PyData.keyHash w.params "message") (.str "message" k) msg) :: (e, excO 59 (some d) tp') :: rest) → (∀ p ∈ (e, excO 59 (some d) tp') :: rest, p.1 < d) → Q .none { s with heap := h', toks := tk' }) :
    wpAny (model prog w) (ktrTop dp un gd cn cs L a ccd cl outer) (call (.ref 35) [.ref e, msg]) Q E s := by
  have kf : (fun (_ : OpenLaw) (_ : Params → Frag) => True) PySem.Challenge.rw_pc0369_01 hK := by k_fill; trivial
  clear kf
  have hb9 : Base s := ⟨⟩
  refine wpAny_call ?_
  k_dflt (refine' code_def ?k1 ?k2 ?k3 ?k4 ?k5 ?kA ?kF ?kK ?k6 ?k7 ?k8 ?k9 ?kB ?_ ?c2 ?c3 ?c4 ?c5; (case kA => exact rfl); (case kF => exact rfl); (case kK => assumption); (case k1 => k_asm); (case k2 => k_asm); (case k3 => k_asm); (case k4 => k_asm); (case k5 => k_asm); (case k6 => k_is); (case k7 => k_is); (case k8 => k_room); (case k9 => first | exact BindsTo.of_eq rfl | exact binds_K (by k_in) rfl (by k_is) rfl rfl rfl); (case c5 => decide); (case kB => exact locs rfl); (case c2 => exact rfl); (case c3 => exact rfl); (case c4 => exact rfl); k_whole)
  intro g1 L1 h1 FG1 F1 N1 B1 X1 T1
  (try dsimp only); (try k_lift B1); (try k_fold)
  replace F1 := fr_open F1
  obtain ⟨m1, F1, em1⟩ := F1
  refine letMA ?_
  intro M9 A9
  k_steps
  refine Hold.mk ?_
  refine two_init (pre := []) (post := rest) (C := 59) PySem.F.excBase_Exception (bm := [.ref 38, .type "Exception", .type "BaseException", .type "object"]) (by decide +kernel) X1 (by k_is) (by k_asm) (by k_asm) (fun p hp => nomatch hp) e1 fun h2 t2 F2 N2 => ?_
  (try dsimp only [List.nil_append] at N2 ⊢)
  (try k_fold)
  k_steps
  refine Hold.mk ?_
  refine excStore1 (pre := []) (post := rest) (C := 59) X1 (by k_asm) N2 (fun p hp => nomatch hp) e1 (by k_is) (by k_is) (by rfl) exc_refuse (by k_is) (by k_is) fun h3 d3 k3 F3 N3 l3 => ?_
  (try dsimp only [List.nil_append] at N3 l3 ⊢)
  (try k_fold)
  k_steps
  exact ret _ _ _ _ _ (by k_asm) (by k_asm) l3
set_option maxHeartbeats 4000000 in
theorem sinit56 {e tp : Addr} {msg : Value} {rest : List (Addr × Obj)}
    (B : Below A₀ base outer h₀) (F : Fr h₀ L s.heap m) (X : (hK w.params).In h₀) (T : Top p loose mean mg mb h₀) (hk : cs.kind = .function) (N : News h₀ L s.heap ((e, excO 59 none tp) :: rest)) (e1 : ∀ p ∈ rest, p.1 ≠ e) (hdp : dp + 61 < recursionLimit) (hun : un + 700 < cLine)
    (ret : ∀ h' tk' d od tp', Fr h₀ L h' m → News h₀ L h' ((d, od) :: (e, excO 59 (some d) tp') :: rest) → Q .none { s with heap := h', toks := tk' }) :
    wpAny (model prog w) (ktrTop dp un gd cn cs L a ccd cl outer) (call (.ref 56) [.ref e, msg]) Q E s := by
  have kf : (fun (_ : OpenLaw) (_ : Params → Frag) => True) PySem.Challenge.rw_pc0369_01 hK := by k_fill; trivial
  clear kf
  have hb9 : Base s := ⟨⟩
  refine wpAny_call ?_
  k_dflt (refine' code_def ?k1 ?k2 ?k3 ?k4 ?k5 ?kA ?kF ?kK ?k6 ?k7 ?k8 ?k9 ?kB ?_ ?c2 ?c3 ?c4 ?c5; (case kA => exact rfl); (case kF => exact rfl); (case kK => assumption); (case k1 => k_asm); (case k2 => k_asm); (case k3 => k_asm); (case k4 => k_asm); (case k5 => k_asm); (case k6 => k_is); (case k7 => k_is); (case k8 => k_room); (case k9 => first | exact BindsTo.of_eq rfl | exact binds_K (by k_in) rfl (by k_is) rfl rfl rfl); (case c5 => decide); (case kB => exact locs rfl); (case c2 => exact rfl); (case c3 => exact rfl); (case c4 => exact rfl); k_whole)
  intro g1 L1 h1 FG1 F1 N1 B1 X1 T1
  (try dsimp only); (try k_lift B1); (try k_fold)
  replace F1 := fr_open F1
  obtain ⟨m1, F1, em1⟩ := F1
  refine letMA ?_
  intro M9 A9
  k_steps
  refine Hold.mk ?_
  k_dflt (refine' sinit35 ?k1 ?k2 ?k3 ?k4 ?k5 ?N ?e ?d ?u ?_; (case k1 => k_asm); (case k2 => k_asm); (case k3 => k_asm); (case k4 => k_asm); (case k5 => first | exact rfl | assumption); (case N => k_asm); (case e => exact e1); (case d => k_room); (case u => k_units))
  intro h2 tk2 d2 k2 t2 F2 N2 l2
  (try dsimp only at N2 ⊢)
  (try k_fold)
  k_steps
  refine Hold.mk ?_
  refine excStore2 (pre := []) (post := rest) (C := 59) (od := emptyDict.putName "message" (PyData.keyHash w.params "message") (.str "message" k2) msg) (es := [⟨PyData.keyHash w.params "message", .str "message" k2, msg⟩]) (n := 1) X1 (by k_asm) N2 (fun p hp => Nat.ne_of_lt (l2 p hp)) (by k_is) (by k_is) (by rfl) exc_refuse (by k_is) (by k_is) (by rfl) (by rfl) (fun k => ⟨_, _, by rfl, Nat.le_of_ble_eq_true rfl⟩) fun h3 k3 F3 N3 => ?_
  (try dsimp only [List.nil_append] at N3 ⊢)
  (try k_fold)
  k_steps
  exact ret _ _ _ _ _ (by k_asm) (by k_asm)
set_option maxHeartbeats 4000000 in
theorem exc59 {msg : Value} {news : List (Addr × Obj)}
    (B : Below A₀ base outer h₀) (F : Fr h₀ L s.heap m) (X : (hK w.params).In h₀) (T : Top p loose mean mg mb h₀) (hk : cs.kind = .function) (N : News h₀ L s.heap news) (hdp : dp + 63 < recursionLimit) (hun : un + 900 < cLine)
    (ret : ∀ h' tk' e d od tp', (∀ p ∈ news, p.1 ≠ e) → Fr h₀ L h' m → News h₀ L h' ((d, od) :: (e, excO 59 (some d) tp') :: news) → Q (.ref e) { s with heap := h', toks := tk' }) :
    wpAny (model prog w) (ktrTop dp un gd cn cs L a ccd cl outer) (call (.ref 59) [msg]) Q E s := by
  have kf : (fun (_ : OpenLaw) (_ : Params → Frag) => True) PySem.Challenge.rw_pc0369_01 hK := by k_fill; trivial
  clear kf
  have hb9 : Base s := ⟨⟩
  have X' := X.keeps F.keep
  refine gl fun G9 hG9 => ?_
  obtain ⟨hh, g, d, tk, os⟩ := s
  refine hG9 ?_
  clear hG9 G9
  refine two_call (K := hK w.params) (C := 59) (fI := 56) (bm := [.ref 38, .type "Exception", .type "BaseException", .type "object"]) ⟨by decide +kernel, by decide +kernel, by decide +kernel, by decide +kernel⟩ X' (X' _ _ (by k_is)) (by k_is) (X' _ _ (by k_is)) rfl (fun h2 e hm => ?_) (by rw [sizeLine_eq]; exact Nat.le_of_ble_eq_true rfl)
  refine gl fun G9 hG9 => ?_
  obtain ⟨k1, k2, t2, k3, k4, k5⟩ := hm
  refine hG9 ?_
  clear hG9 G9
  have F2 := F.keeps k1
  have N2 : News h₀ L h2 ((e, excO 59 none t2) :: news) := fun p hp => by
    rcases List.mem_cons.mp hp with rfl | hp
    · refine ⟨k3, fun q => ?_, ?_⟩
      · obtain ⟨o, _, _, ho, _⟩ := F.ns
        rw [← q, k2] at ho; cases ho
      · cases q : h₀.get? e with
        | none => rfl
        | some o => have := F.keep _ _ q; rw [k2] at this; cases this
    · exact ⟨k1 _ _ (N p hp).1, (N p hp).2⟩
  have e1 : ∀ p ∈ news, p.1 ≠ e := fun p hp q => by
    have := (N p hp).1
    rw [q, k2] at this; cases this
  k_dflt (refine' sinit56 ?k1 ?k2 ?k3 ?k4 ?k5 ?N ?e ?d ?u ?_; (case k1 => k_asm); (case k2 => k_asm); (case k3 => k_asm); (case k4 => k_asm); (case k5 => first | exact rfl | assumption); (case N => k_asm); (case e => exact e1); (case d => (show dp + 1 + 61 < recursionLimit; omega)); (case u => (show un + 1 + 700 < cLine; omega)))
  intro h3 tk3 d3 od3 t3 F3 N3
  exact ⟨rfl, ret _ _ _ _ _ _ e1 F3 N3⟩
end

theorem ln37 : True := by
  k_with "off73" => skip
  trivial
end Part26
section Part27
section
variable {M : Model} {A : Around} {E : Value → Shared → Prop} {env : Env} {s : Shared}
variable {nm q : Str} {C N : Addr} {bs bm : List Value} {hdct : Bool} {sn : List Str} {sub : List Value} {ab : Bool} {col : Option Bool} {dd : Option Addr} {k0 k1 k2 k3 k5 : Option Value} {newId : String}
theorem raise_made {x : Sem Value} {Q : Flow → Shared → Prop} (hbase : bm.contains (.type "BaseException") = true) (hh : A.handled = none)
    (h : wpAny M A x (fun v s₁ => ∃ e od t, v = .ref e ∧ s₁.heap.get? C = some (excClassObj nm q C N bs bm hdct sn sub ab col dd k0 k1 k2 k3 k5 newId) ∧ s₁.heap.get? e = some (excO C od t) ∧ E (.ref e) s₁) E s) :
    wpAny M A (raiseStmt env (some x) none) Q E s := by
  have hcB : (Value.ref C :: bm).contains (.type "BaseException") = true := by rw [List.contains_cons, hbase, Bool.or_true]
  unfold raiseStmt
  refine wpAny_bind (wpAny_mono h (fun v s₁ h₁ => ?_) fun _ _ x => x)
  obtain ⟨e, od, t, rfl, hC, he, hE⟩ := h₁
  refine gl fun G9 hG9 => ?_
  obtain ⟨hp, g, d, tk, os⟩ := s₁
  refine hG9 ?_
  clear hG9 G9
  repeat (first | with_reducible refine wpAny_loadPart_at he ?_ | with_reducible refine wpAny_loadPart_at hC ?_ | (with_reducible refine wpAny_isSubtype_exc hC ?_; rw [hcB]) | wp_step)
  exact wpAny_raiseNew_none hh hE
theorem my_raise {ex : PySem.Expr} {pos : Pos} {Q : Flow → Shared → Prop} (hbase : bm.contains (.type "BaseException") = true) (hh : A.handled = none)
    (h : wpAny M A (eval ex env) (fun v s₁ => ∃ e od t, v = .ref e ∧ s₁.heap.get? C = some (excClassObj nm q C N bs bm hdct sn sub ab col dd k0 k1 k2 k3 k5 newId) ∧ s₁.heap.get? e = some (excO C od t) ∧ E (.ref e) s₁) E s) :
    wpAny M A (exec (.Raise (some ex) none pos) env) Q E s := by
  rw [arm_exec_Raise]
  refine wpAny_bind (wpAny_standAt (raise_made (C := C) (nm := nm) (q := q) (N := N) (bs := bs) (bm := bm) (hdct := hdct) (sn := sn) (sub := sub) (ab := ab) (col := col) (dd := dd) (k0 := k0) (k1 := k1) (k2 := k2) (k3 := k3) (k5 := k5) (newId := newId) hbase hh ?_))
  exact wpAny_bind (wpAny_mono h (fun v s₃ h₃ => wpAny_bind (wpAny_standAt (wpAny_pure h₃))) fun _ _ x => x)
end
section
variable {M : Model} {A : Around} {E : Value → Shared → Prop} {s' : Shared} {base g : Heap} {outer : List Env} {L a e t C : Addr} {m : Str → Option Value} {name : Str} {scope : Scope} {cd : Value} {cl : List (Str × Addr)} {od : Option Addr} {Q : Unit → Shared → Prop} {news : List (Addr × Obj)}
theorem below_pushX (K : Below A base outer g) {h : Heap} (F : Fr g L h m) (hk : scope.kind = .function) : Below (A.deeper (envX name scope L a cd cl)) base (envX name scope L a cd cl :: outer) h := by
  have hnew : base.get? L = none := by
    cases hq : base.get? L with
    | none => rfl
    | some o => exact absurd (Nat.lt_of_lt_of_le (Heap.lt_size (K.stays L o hq)) F.above) (Nat.lt_irrefl _)
  refine ⟨Around.frames_deeper K.stack, fun b o e => F.keep b o (K.stays b o e), ?_⟩
  exact .cons (by show scope.kind ≠ .module; rw [hk]; decide) rfl F.ns hnew (K.frames.of_keeps fun b o e _ => ⟨o, F.keep b o e, rfl⟩)
/-- the first frame is left with a made exception in flight -/
theorem leave_exc (K : Below A base outer g) (F : Fr g L s'.heap m) (N : News g L s'.heap news) (he : s'.heap.get? e = some (excO C od t)) (hen : ∀ p ∈ news, p.1 ≠ e) (heg : g.get? e = none) (hk : scope.kind = .function)
    (hQ : ∀ h', RaisedN base outer e (.ref C) news h' → g.UpToSlots h' → Q () { s' with heap := h' }) :
    wpAny M (A.deeper (envX name scope L a cd cl)) (leaving (envX name scope L a cd cl) (.ref e)) Q E s' := by
  have K' := below_pushX (name := name) (a := a) (cd := cd) (cl := cl) K F hk
  generalize hal : e :: (envX name scope L a cd cl :: outer).filterMap (·.frame) = al
  have hin : ∀ env ∈ (envX name scope L a cd cl :: outer), ∀ b, env.frame = some b → b ∈ al := fun env he b hb => by
    rw [← hal]; exact List.mem_cons_of_mem _ (List.mem_filterMap.mpr ⟨env, he, hb⟩)
  have gb : base.get? e = none := fresh_of_stays K.stays heg
  have st : base.StaysIn (hideAll s'.heap al) := fun b o q => hideAll_get _ (K'.stays b o q) fun hm => by
    rw [← hal] at hm
    rcases List.mem_cons.mp hm with rfl | hm
    · rw [gb] at q; cases q
    · rw [(K'.frames.mem hm).1] at q; cases q
  have hl : ∀ q ∈ news, (hideAll s'.heap al).get? q.1 = some q.2 ∧ base.get? q.1 = none := fun q hq => by
    refine ⟨hideAll_get _ (N q hq).1 fun hm => ?_, fresh_of_stays K.stays (N q hq).2.2⟩
    rw [← hal] at hm
    rcases List.mem_cons.mp hm with q1 | hm
    · exact hen q hq q1
    · obtain ⟨env, he, hf⟩ := List.mem_filterMap.mp hm
      rcases List.mem_cons.mp he with rfl | he
      · exact (N q hq).2.1 (Option.some.inj hf).symm
      · obtain ⟨o, ho, _⟩ := (K.frames.mem (List.mem_filterMap.mpr ⟨env, he, hf⟩)).2
        rw [(N q hq).2.2] at ho; cases ho
  have hen' : (hideAll s'.heap al).get? e = none := hideAll_none _ (by rw [← hal]; exact List.mem_cons_self ..)
  refine wpAny_leaving_firstW (a0 := .ref t) K'.stack (funFrames_hide K'.frames hin) rfl he (fun b o hb => of_hideAll _ hb) hen' rfl rfl rfl fun h' hL => ?_
  refine gl fun G9 hG9 => ?_
  obtain ⟨k1, ⟨_, _, k2⟩, k3, k4⟩ := hL
  refine hG9 ?_
  clear hG9 G9
  exact hQ h' ⟨_, .ref t, st, hl, k1, hen', k2, k3⟩ ((Heap.UpToSlots.of_keeps F.keep).trans k4)
end
section
variable {prog : Program} {w : World} {A₁ : Around} {E : Value → Shared → Prop} {s' : Shared} {h₀ g1 G : Heap} {outer : List Env} {L L1 a e : Addr} {m m1 : Str → Option Value} {name : Str} {scope : Scope} {cd : Value}
  {b₀ : Stmt} {suite : List Stmt} {pos np : Pos} {rest : List ExceptHandler} {Q : Flow → Shared → Prop} {news : List (Addr × Obj)} {KF : Frag} {C : Addr}
  {p : Program} {loose : List Str} {mean : ExcName → Option Value} {mg mb : Str → Option Value} {x : Str}
variable {nm q : Str} {N' : Addr} {bs bm : List Value} {hdct : Bool} {sn : List Str} {sub : List Value} {ab : Bool} {col : Option Bool} {dd : Option Addr} {k0 k1 k2 k3 k5 : Option Value} {newId : String}
theorem caught_mine (stack : A₁.frames = some outer) (R : RaisedN h₀ (envOf name scope L1 a cd :: outer) e (.ref C) news s'.heap) (FG : Fr h₀ L g1 m) (F1 : Fr g1 L1 G m1) (hsm : G.UpToSlots s'.heap) (hn : ∀ q ∈ news, q.1 ≠ L ∧ q.1 ≠ L1)
    (X : KF.In h₀) (T : TopRead p loose mg mb h₀) (ex : nsIn KF mainGlobals x = some (some (.ref C))) (hC : KF.lookup C = some (excClassObj nm q C N' bs bm hdct sn sub ab col dd k0 k1 k2 k3 k5 newId)) (hbase : bm.contains (.type "BaseException") = true)
    (k : ∀ h', Fr h₀ L1 h' m1 → Fr h₀ L h' m → News h₀ L1 h' news → News h₀ L h' news →
      wpAny (model prog w) ((A₁.deeper (envOf name scope L1 a cd)).mark (some (.ref e))) (execs (b₀ :: suite) (envOf name scope L1 a cd)) Q E { s' with heap := h' })
    (hk : scope.kind = .function := by rfl) (hx : (envOf name scope L1 a cd).kindOf x = some .globalImplicit := by rfl) (hd : (x == ("__debug__" : Str)) = false := by decide)
    (hE : PassesOwnAt (model prog w) ((A₁.deeper (envOf name scope L1 a cd)).mark (some (.ref e))) (A₁.deeper (envOf name scope L1 a cd)) (envOf name scope L1 a cd) E := by passes_own) :
    wpAny (model prog w) (A₁.deeper (envOf name scope L1 a cd)) (noteFrame (.ref e) (envOf name scope L1 a cd))
      (fun _ s₂ => wpAny (model prog w) (A₁.deeper (envOf name scope L1 a cd)) (setFlight (.ref e) none) (fun _ s₃ =>
        wpAny (model prog w) (A₁.deeper (envOf name scope L1 a cd)) (handleBy (.ref e) (envOf name scope L1 a cd) (.ExceptHandler (some (.Name x np)) none (b₀ :: suite) pos :: rest)) Q E s₃) E s₂) E s' := by
  refine gl fun G9 hG9 => ?_
  obtain ⟨B, a0, hB, hl, hfl⟩ := R
  refine hG9 ?_
  clear hG9 G9
  have ab1 : h₀.objs.size ≤ L1 := by
    refine gl fun G9 hG9 => ?_
    obtain ⟨o, _, _, ho, _⟩ := FG.ns
    refine hG9 ?_
    clear hG9 G9
    exact Nat.le_trans FG.above (Nat.le_trans (Nat.le_of_lt (Heap.lt_size ho)) F1.above)
  have fr1 : ∀ h', h₀.StaysIn h' → G.UpToSlots h' → Fr h₀ L1 h' m1 := fun h' st u => ⟨u.ns F1.ns, st, ab1⟩
  have fr0 : ∀ h', h₀.StaysIn h' → G.UpToSlots h' → Fr h₀ L h' m := fun h' st u => ⟨((Heap.UpToSlots.of_keeps F1.keep).trans u).ns FG.ns, st, FG.above⟩
  refine wpAny_looks_onW (Around.frames_deeper stack) rfl hfl fun h₄ hheld₄ hsm₄ => ?_
  refine wpAny_landsW hheld₄ fun h₅ hheld hsm₅' => ?_
  have hsm₅ := hsm₄.trans hsm₅'
  have hheld' := flyingW_base hB hheld
  have F₅ := fr1 h₅ hheld'.1 (hsm.trans hsm₅)
  obtain ⟨ob, hob, hobc⟩ := hheld'.there
  refine wpAny_handleBy_cons (codeAny_handlers_test (name_K F₅ X T ex ?_ hk hx hd)) (by intro q; cases q)
  refine wpAny_excMatches_sub_self (X.keeps F₅.keep _ _ hC) hob hobc hbase (codeAny_handlers_suite ?_)
  refine lands_againW hheld fun h₆ hfl₆ hsm₆ => ?_
  have hfl₆' := flyingW_base hB hfl₆
  have u₆ := (hsm.trans hsm₅).trans hsm₆
  exact wpAny_passesOwnAt hE (k h₆ (fr1 _ hfl₆'.1 u₆) (fr0 _ hfl₆'.1 u₆) (fun q hq => ⟨hfl₆.1 _ _ (hl q hq).1, (hn q hq).2, (hl q hq).2⟩) (fun q hq => ⟨hfl₆.1 _ _ (hl q hq).1, (hn q hq).1, (hl q hq).2⟩))
/-- a def is entered, its end as it comes -/
theorem code_raw {A₀ A : Around} {s : Shared} {base h₀ : Heap} {env : Env} {outer : List Env} {L f : Addr} {m : Str → Option Value} {K : Frag} {news : List (Addr × Obj)}
    {R : Result → Shared → Prop} {name qual : Str} {params : Arguments} {body : List Stmt} {scope : Scope} {dV kV doc pm cdv ct oc : Value} {an od : Option Addr} {osl : Array (Option Value)} {args : Args} {binds : List (Str × Value)}
    (B : Below A₀ base outer h₀) (F : Fr h₀ L s.heap m) (X₀ : K.In h₀) (N : News h₀ L s.heap news) (T : Top p loose mean mg mb h₀) (hA : A.frames = some (env :: outer)) (hf : env.frame = some L) (hke : env.scope.kind = .function)
    (ho : K.lookup f = some ⟨oc, od, .func (fnOf name qual params body scope dV kV doc pm an cdv ct), osl⟩) (hcd : codeIn K cdv qual = true) (hroom : A.depth < recursionLimit)
    (hbind : BindsTo s (fnOf name qual params body scope dV kV doc pm an cdv ct) args binds) (hloc : ∀ y ∈ binds, scope.names.lookup y.1 = some .local)
    (h : ∀ g L' h₁, Fr h₀ L g m → Fr g L' h₁ (fun y => binds.reverse.lookup y) → News g L' h₁ news → Below A base (env :: outer) g → K.In g → Top p loose mean mg mb g → (∀ p ∈ news, p.1 ≠ L ∧ p.1 ≠ L') →
      wpAny (model prog w) (A.deeper (envOf qual scope L' f cdv)) (execs body (envOf qual scope L' f cdv))
        (fun fl s' => R (.ok (.ret (match fl with | .ret v => v | _ => .none))) s')
        (fun e s' => wpAny (model prog w) (A.deeper (envOf qual scope L' f cdv)) (leaving (envOf qual scope L' f cdv) e) (fun _ s'' => R (.error e) s'') (fun e' s'' => R (.error e') s'') s')
        { s with heap := h₁, toks := s.toks + binds.length })
    (hco : scope.isCoroutine = false) (hgen : scope.isGenerator = false) (hk : scope.kind = .function) (hcell : ∀ x ∈ scope.names, x.2 ≠ .cell) : codeAny (model prog w) A (.call (.ref f) args) R s := by
  refine gl fun G9 hG9 => ?_
  obtain ⟨FG, BG, st, _⟩ := groundX (R := R) B F N hA hf hke
  refine hG9 ?_
  clear hG9 G9
  have X := X₀.keeps F.keep
  refine codeAny_call_def (fd := fnOf name qual params body scope dV kV doc pm an cdv ct) (body := body) (binds := binds) hroom (X _ _ ho) rfl (T.nolimit.keeps F.keep) (codeRec_of X hcd) rfl hbind hcell hloc (fun h₁ hns hk₁ => ?_) hco hgen hk
  exact h _ s.heap.objs.size h₁ FG ⟨hns, fun b o e => hk₁ b o (of_hideAll _ e), Nat.le_of_eq (hideAll_size _ _)⟩
    (fun p hp => ⟨hk₁ _ _ (N p hp).1, Nat.ne_of_lt (Heap.lt_size (N p hp).1), hideAll_none _ (List.mem_map_of_mem hp)⟩) BG (X₀.keeps st) (T.keeps st) (fun p hp => ⟨(N p hp).2.1, Nat.ne_of_lt (Heap.lt_size (N p hp).1)⟩)
end
end Part27
section Part28
theorem wo28 : True := by
  w_top off
  trivial
theorem isList_keeps {h h' : Heap} {l : Addr} {xs : Array Value} (x : h.IsList l xs) (k : ∀ b o, h.get? b = some o → h'.get? b = some o) : h'.IsList l xs := by
  obtain ⟨o, ho, r⟩ := x
  exact ⟨o, k _ _ ho, r⟩
theorem ln38 : True := by
  k_with "my subscriptTail Name Constant ref int" => ((fail_if_success (k_extra "off79")); (k_here; refine Hold.out ?_))
  trivial
section
variable {prog : Program} {w : World} {p : Program} {loose : List Str} {mean : ExcName → Option Value} {mg mb : Str → Option Value}
    {dp un : Nat} {gd : Option (List Code)} {cn : Str} {cs : Scope} {a : Addr} {ccd : Value} {cl : List (Str × Addr)} {outer : List Env} {A₀ : Around} {base h₀ : Heap} {L : Addr} {m : Str → Option Value} {s : Shared} {Q E : Value → Shared → Prop}
    {news : List (Addr × Obj)}
theorem src_end {src l1 : Addr} {so o1 : Obj} {d st : Int} {td ts : Tok} {h' : Heap} {tk' : Nat} (ret : ∀ src so h' tk', SrcOk prog w src so → Fr h₀ L h' m → News h₀ L h' ((src, so) :: news) → (∀ p ∈ news, p.1 < src) → Q (.ref src) { s with heap := h', toks := tk' })
    (hd : so.IsDictOf (strKind prog w) [("digits", .int d td), ("stir", .int st ts)]) (lo : (src == sysModules) = false) (h0 : 0 ≤ d) (h1 : 0 ≤ st) (h2 : st < 2147483647) (F : Fr h₀ L h' m) (N : News h₀ L h' ((src, so) :: (l1, o1) :: news)) (hl : @LT.lt Nat _ l1 src ∧ AllLt src news) :
    Q (.ref src) { s with heap := h', toks := tk' } :=
  ret _ _ _ _ ⟨lo, _, _, _, _, hd, .cons (.int _ _) (.cons (.int _ _) .nil), h0, h1, h2⟩ F (fun p hp => N p (by
    rcases List.mem_cons.mp hp with rfl | hp
    · simp
    · simp [hp])) fun p hp => allLt_mem hl.2 p hp
set_option maxHeartbeats 4000000 in
theorem source_c {l : Addr} {vs : List Value} {ns : List Int}
    (B : Below A₀ base outer h₀) (F : Fr h₀ L s.heap m) (X : (hK w.params).In h₀) (T : Top p loose mean mg mb h₀) (hk : cs.kind = .function) (N : News h₀ L s.heap news) (hl : h₀.IsList l vs.toArray) (hi : IntsAre vs ns) (hlen : ns.length ≤ 63)
    (hdp : dp + 60 < recursionLimit) (hun : un + 600 < cLine)
    (ret : ∀ src so h' tk', SrcOk prog w src so → Fr h₀ L h' m → News h₀ L h' ((src, so) :: news) → (∀ p ∈ news, p.1 < src) → Q (.ref src) { s with heap := h', toks := tk' }) :
    wpAny (model prog w) (ktrTop dp un gd cn cs L a ccd cl outer) (call (.ref 239) [.ref l]) Q E s := by
  have kf : (fun (_ : OpenLaw) (_ : Params → Frag) => True) PySem.Challenge.rw_pc0369_01 hK := by k_fill; trivial
  clear kf
  have hb9 : Base s := ⟨⟩
  refine wpAny_call ?_
  k_dflt (refine' code_def ?k1 ?k2 ?k3 ?k4 ?k5 ?kA ?kF ?kK ?k6 ?k7 ?k8 ?k9 ?kB ?_ ?c2 ?c3 ?c4 ?c5; (case kA => exact rfl); (case kF => exact rfl); (case kK => assumption); (case k1 => k_asm); (case k2 => k_asm); (case k3 => k_asm); (case k4 => k_asm); (case k5 => k_asm); (case k6 => k_is); (case k7 => k_is); (case k8 => k_room); (case k9 => first | exact BindsTo.of_eq rfl | exact binds_K (by k_in) rfl (by k_is) rfl rfl rfl); (case c5 => decide); (case kB => exact locs rfl); (case c2 => exact rfl); (case c3 => exact rfl); (case c4 => exact rfl); k_whole)
  intro g1 L1 h1 FG1 F1 N1 B1 X1 T1
  (try dsimp only); (try k_lift B1); (try k_fold)
  replace F1 := fr_open F1
  obtain ⟨m1, F1, em1⟩ := F1
  have hl1 : g1.IsList l vs.toArray := by
    exact isList_keeps hl FG1.keep
  cases hi with
  | nil =>
    k_steps
    rename News h₀ L _ _ => NZ
    rename Obj.IsDictOf (strKind prog w) _ _ => hdo
    dsimp only at NZ
    exact src_end ret hdo (by assumption) (by decide) (by decide) (by decide) (by k_asm) NZ (by assumption)
  | cons x tx hr =>
    k_steps
    · exfalso
      rename decide (x :: _ = []) = true => hz
      simp at hz
    · rename Fr g1 L1 _ _ => FZ
      have hlz := isList_keeps hl1 FZ.keep
      refine Hold.mk ?_
      refine tail_any hlz.typeIs slot_list_getitem.lookup (wpAny_getItem_list hlz (by decide) (by decide) (show (Value.int x tx :: _).toArray[(0 : Int).toNat]? = some (Value.int x tx) from rfl) ?_) (by with_unfolding_all rfl)
      have b0 : 0 ≤ (if x < 0 then -x else x) := by split <;> omega
      have b1 : 0 ≤ (if x < 0 then -x else x).fmod 1000003 + 29 := by
        have := fmod_lo (if x < 0 then -x else x) (n := 1000003) (by decide)
        omega
      have b2 : (if x < 0 then -x else x).fmod 1000003 + 29 < 2147483647 := by
        have := fmod_hi (if x < 0 then -x else x) (n := 1000003) (by decide)
        omega
      k_steps
      all_goals (
        rename News h₀ L _ _ => NZ
        rename Obj.IsDictOf (strKind prog w) _ _ => hdo
        dsimp only at NZ)
      · exact src_end ret hdo (by assumption) b0 b1 b2 (by k_asm) NZ (by assumption)
      · exact src_end ret hdo (by assumption) (by decide) b1 b2 (by k_asm) NZ (by assumption)
end

theorem ln39 : True := by
  k_with "off79" => skip
  trivial
end Part28
section Part29
noncomputable def lastZ (l : List Int) : Int := l.getLastD 0
structure RowE (u : Int) (f : List Int) (o : Int) (r : Row) : Prop where
  most : r.most = 9
  moct : r.moct = 99
  octs : r.octs = o
  fins : r.fins = f.map (· * u)
  len : r.things.length = f.length
structure ExQ (u : Int) (f0 f1 : List Int) (o0 o1 : Int) (q : WFq) : Prop where
  U0 : 0 < u
  steps : q.steps = [3 * u, u]
  last : q.last = [lastZ f0 * u, lastZ f1 * u]
  time : q.time = 0
  rows : ∃ r0 r1, q.rows = [r0, r1] ∧ RowE u f0 o0 r0 ∧ RowE u f1 o1 r1
theorem lastZ_snoc (f : List Int) (a : Int) : lastZ (f ++ [a]) = a := by simp [lastZ]
theorem exput {u : Int} {f0 f1 : List Int} {o0 o1 size thing : Int} {k : Nat} {q q' : WFq} (S : ExQ u f0 f1 o0 o1 q) (n0 : 0 ≤ lastZ f0) (n1 : 0 ≤ lastZ f1) (h : PutQ q k size thing q') :
    (k = 0 → ExQ u (f0 ++ [lastZ f0 + 3 * size]) f1 (o0 + size) o1 q') ∧ (k = 1 → ExQ u f0 (f1 ++ [lastZ f1 + size]) o0 (o1 + size) q') := by
  obtain ⟨r, la, D, last0, time0, hr, hc, rfl⟩ := h
  refine gl fun G9 hG9 => ?_
  obtain ⟨r0, r1, er, e0, e1⟩ := S.rows
  refine hG9 ?_
  clear hG9 G9
  have U0 := S.U0
  have z0 := Int.mul_nonneg n0 (Int.le_of_lt U0)
  have z1 := Int.mul_nonneg n1 (Int.le_of_lt U0)
  have base : last0 = [lastZ f0 * u, lastZ f1 * u] ∧ time0 = 0 := by
    rcases hc with ⟨a, rfl, rfl⟩ | ⟨a, rfl, rfl⟩
    · have hz := wait_zero.mp a
      rw [er] at hz
      have y0 : f0 = [] := by
        have := e0.len
        rw [hz r0 (by simp)] at this
        exact List.length_eq_zero_iff.mp this.symm
      have y1 : f1 = [] := by
        have := e1.len
        rw [hz r1 (by simp)] at this
        exact List.length_eq_zero_iff.mp this.symm
      subst y0 y1
      rw [S.last]
      exact ⟨by simp [lastZ, List.replicate], rfl⟩
    · exact ⟨S.last, S.time⟩
  obtain ⟨rfl, rfl⟩ := base
  have p0 : putF [lastZ f0 * u, lastZ f1 * u] 0 q.steps 0 size = (lastZ f0 + 3 * size) * u := by
    unfold putF
    rw [S.steps]
    simp only [List.getD_cons_zero]
    rw [if_neg (by omega), Int.add_mul, Int.mul_right_comm 3 size u, Int.mul_comm size]
  have p1 : putF [lastZ f0 * u, lastZ f1 * u] 0 q.steps 1 size = (lastZ f1 + size) * u := by
    unfold putF
    rw [S.steps]
    simp only [List.getD_cons_succ, List.getD_cons_zero]
    rw [if_neg (by omega), Int.add_mul]
  refine ⟨fun hk => ?_, fun hk => ?_⟩
  · subst hk
    rw [er] at hr
    obtain rfl : r0 = r := by simpa using hr
    refine ⟨U0, S.steps, ?_, rfl, { r0 with octs := r0.octs + size, things := r0.things ++ [(D, size, thing)], fins := r0.fins ++ [putF [lastZ f0 * u, lastZ f1 * u] 0 q.steps 0 size] }, r1, by simp only [er, List.set_cons_zero], ⟨e0.most, e0.moct, ?_, ?_, ?_⟩, e1⟩
    · show [lastZ f0 * u, lastZ f1 * u].set 0 _ = _
      rw [p0, lastZ_snoc]; rfl
    · show r0.octs + size = _
      rw [e0.octs]
    · show r0.fins ++ [_] = _
      rw [p0, e0.fins, List.map_append]; rfl
    · show (r0.things ++ [_]).length = _
      rw [List.length_append, List.length_append, e0.len]; rfl
  · subst hk
    rw [er] at hr
    obtain rfl : r1 = r := by simpa using hr
    refine ⟨U0, S.steps, ?_, rfl, r0, { r1 with octs := r1.octs + size, things := r1.things ++ [(D, size, thing)], fins := r1.fins ++ [putF [lastZ f0 * u, lastZ f1 * u] 0 q.steps 1 size] }, by simp only [er, List.set_cons_succ, List.set_cons_zero], e0, ⟨e1.most, e1.moct, ?_, ?_, ?_⟩⟩
    · show [lastZ f0 * u, lastZ f1 * u].set 1 _ = _
      rw [p1, lastZ_snoc]; rfl
    · show r1.octs + size = _
      rw [e1.octs]
    · show r1.fins ++ [_] = _
      rw [p1, e1.fins, List.map_append]; rfl
    · show (r1.things ++ [_]).length = _
      rw [List.length_append, List.length_append, e1.len]; rfl
theorem ExQ.facts {u : Int} {f0 f1 : List Int} {o0 o1 : Int} {q : WFq} (S : ExQ u f0 f1 o0 o1 q) (h0 : f0.length ≤ 5) (h1 : f1.length ≤ 5) (a0 : o0 ≤ 40) (a1 : o1 ≤ 40) :
    q.rows.length = 2 ∧ q.last.length = q.rows.length ∧ q.steps.length = q.rows.length ∧ ∀ size : Int, size ≤ 50 → ∀ r ∈ q.rows, r.things.length < 99 ∧ r.fins.length = r.things.length ∧ (r.things.length : Int) < r.most ∧ r.octs + size ≤ r.moct := by
  refine gl fun G9 hG9 => ?_
  obtain ⟨r0, r1, er, e0, e1⟩ := S.rows
  refine hG9 ?_
  clear hG9 G9
  refine ⟨by rw [er]; rfl, by rw [er, S.last]; rfl, by rw [er, S.steps]; rfl, fun size hs r hr => ?_⟩
  rw [er] at hr
  simp only [List.mem_cons, List.not_mem_nil, or_false] at hr
  rcases hr with rfl | rfl
  · exact ⟨by rw [e0.len]; omega, by rw [e0.fins, e0.len, List.length_map], by rw [e0.len, e0.most]; omega, by rw [e0.octs, e0.moct]; omega⟩
  · exact ⟨by rw [e1.len]; omega, by rw [e1.fins, e1.len, List.length_map], by rw [e1.len, e1.most]; omega, by rw [e1.octs, e1.moct]; omega⟩
structure ExT (u : Int) (f0 f1 : List Int) (q : WFq) : Prop where
  U0 : 0 < u
  rows : ∃ r0 r1, q.rows = [r0, r1] ∧ (r0.fins = f0.map (· * u) ∧ r0.things.length = f0.length) ∧ (r1.fins = f1.map (· * u) ∧ r1.things.length = f1.length)
theorem ExQ.take {u : Int} {f0 f1 : List Int} {o0 o1 : Int} {q : WFq} (S : ExQ u f0 f1 o0 o1 q) : ExT u f0 f1 q := by
  refine gl fun G9 hG9 => ?_
  obtain ⟨r0, r1, er, e0, e1⟩ := S.rows
  refine hG9 ?_
  clear hG9 G9
  exact ⟨S.U0, r0, r1, er, ⟨e0.fins, e0.len⟩, ⟨e1.fins, e1.len⟩⟩
theorem ExT.facts {u : Int} {f0 f1 : List Int} {q : WFq} (S : ExT u f0 f1 q) (h0 : f0.length ≤ 5) (h1 : f1.length ≤ 5) : q.rows.length < 100 ∧ ∀ r ∈ q.rows, r.things.length < 1000 ∧ r.fins.length = r.things.length := by
  refine gl fun G9 hG9 => ?_
  obtain ⟨r0, r1, er, e0, e1⟩ := S.rows
  refine hG9 ?_
  clear hG9 G9
  refine ⟨by rw [er]; exact Nat.le_of_ble_eq_true rfl, fun r hr => ?_⟩
  rw [er] at hr
  simp only [List.mem_cons, List.not_mem_nil, or_false] at hr
  rcases hr with rfl | rfl
  · exact ⟨by rw [e0.2]; omega, by rw [e0.1, e0.2, List.length_map]⟩
  · exact ⟨by rw [e1.2]; omega, by rw [e1.1, e1.2, List.length_map]⟩
theorem ExT.in0 {u : Int} {f0 f1 : List Int} {q : WFq} (S : ExT u f0 f1 q) {a : Int} {g : List Int} (e : f0 = a :: g) : 0 ∈ cands q none ∧ headF q 0 = a * u := by
  refine gl fun G9 hG9 => ?_
  obtain ⟨r0, r1, er, e0, e1⟩ := S.rows
  refine hG9 ?_
  clear hG9 G9
  have q0 : q.rows[0]? = some r0 := by rw [er]; rfl
  have hne : r0.things ≠ [] := fun h => by have := e0.2; rw [h, e] at this; cases this
  exact ⟨List.mem_filter.mpr ⟨List.mem_range.mpr (by rw [er]; exact Nat.zero_lt_succ _), by simp [goQ, q0, goB, hne]⟩, by simp only [headF, q0, e0.1, e]; rfl⟩
theorem ExT.in1 {u : Int} {f0 f1 : List Int} {q : WFq} (S : ExT u f0 f1 q) {a : Int} {g : List Int} (e : f1 = a :: g) : 1 ∈ cands q none ∧ headF q 1 = a * u := by
  refine gl fun G9 hG9 => ?_
  obtain ⟨r0, r1, er, e0, e1⟩ := S.rows
  refine hG9 ?_
  clear hG9 G9
  have q1 : q.rows[1]? = some r1 := by rw [er]; rfl
  have hne : r1.things ≠ [] := fun h => by have := e1.2; rw [h, e] at this; cases this
  exact ⟨List.mem_filter.mpr ⟨List.mem_range.mpr (by rw [er]; exact Nat.le_refl 2), by simp [goQ, q1, goB, hne]⟩, by simp only [headF, q1, e1.1, e]; rfl⟩
theorem extake {u : Int} {f0 f1 : List Int} {k : Nat} {size thing : Int} {q q' : WFq} (S : ExT u f0 f1 q) (hb : Best q none k) (h : TakeQ q k size thing q') :
    (k = 0 ∧ ∃ a g, f0 = a :: g ∧ ExT u g f1 q' ∧ ∀ b t, f1 = b :: t → a ≤ b) ∨ (k = 1 ∧ ∃ b t, f1 = b :: t ∧ ExT u f0 t q' ∧ ∀ a g, f0 = a :: g → b < a) := by
  obtain ⟨r, D, restT, f, restF, hr, ht, hf, rfl⟩ := h
  refine gl fun G9 hG9 => ?_
  obtain ⟨r0, r1, er, e0, e1⟩ := S.rows
  refine hG9 ?_
  clear hG9 G9
  have U0 := S.U0
  have hk : k < 2 := by have := (List.getElem?_eq_some_iff.mp hr).1; rw [er] at this; exact this
  have hk' := lt2 hk
  rcases hk' with rfl | rfl
  · rw [er] at hr
    obtain rfl : r0 = r := by simpa using hr
    obtain ⟨a, g, e⟩ : ∃ a g, f0 = a :: g := by
      cases f0 with
      | nil => rw [e0.1] at hf; cases hf
      | cons a g => exact ⟨a, g, rfl⟩
    subst e
    have hg : restF = g.map (· * u) := by
      have := e0.1
      rw [hf, List.map_cons] at this
      exact (List.cons.inj this).2
    refine .inl ⟨rfl, a, g, rfl, ⟨U0, { r0 with octs := r0.octs - size, things := restT, fins := restF }, r1, by simp only [er, List.set_cons_zero], ⟨hg, ?_⟩, e1⟩, fun b t e => ?_⟩
    · have := e0.2
      rw [ht] at this
      simpa using this
    · have i0 := S.in0 rfl
      have i1 := S.in1 e
      have := hb.2 1 i1.1
      rw [i0.2, i1.2] at this
      refine Int.le_of_mul_le_mul_right (?_ : a * u ≤ b * u) U0
      omega
  · rw [er] at hr
    obtain rfl : r1 = r := by simpa using hr
    obtain ⟨a, g, e⟩ : ∃ a g, f1 = a :: g := by
      cases f1 with
      | nil => rw [e1.1] at hf; cases hf
      | cons a g => exact ⟨a, g, rfl⟩
    subst e
    have hg : restF = g.map (· * u) := by
      have := e1.1
      rw [hf, List.map_cons] at this
      exact (List.cons.inj this).2
    refine .inr ⟨rfl, a, g, rfl, ⟨U0, r0, { r1 with octs := r1.octs - size, things := restT, fins := restF }, by simp only [er, List.set_cons_succ, List.set_cons_zero], e0, ⟨hg, ?_⟩⟩, fun b t e => ?_⟩
    · have := e1.2
      rw [ht] at this
      simpa using this
    · have i0 := S.in0 e
      have i1 := S.in1 rfl
      have := hb.2 0 i0.1
      rw [i0.2, i1.2] at this
      exact Int.lt_of_mul_lt_mul_right (show a * u < b * u by omega) (Int.le_of_lt U0)
noncomputable def exTab : Nat → List Int × List Int
  | 0 => ([18, 21], [6, 12, 18])
  | 1 => ([18, 21], [12, 18])
  | 2 => ([18, 21], [18])
  | 3 => ([21], [18])
  | 4 => ([21], [])
  | _ => ([], [])
noncomputable def exNext : List Int := [1, 1, 0, 1, 0]
theorem exstep {u : Int} {i k : Nat} {size thing : Int} {q q' : WFq} (hi : i < 5) (S : ExT u (exTab i).1 (exTab i).2 q) (hb : Best q none k) (h : TakeQ q k size thing q') :
    exNext[i]? = some (k : Int) ∧ ExT u (exTab (i + 1)).1 (exTab (i + 1)).2 q' := by
  have hi5 := lt5 hi
  rcases extake S hb h with ⟨rfl, a, g, e, T, hl⟩ | ⟨rfl, a, g, e, T, hl⟩
  · rcases hi5 with rfl | rfl | rfl | rfl | rfl
    · obtain ⟨rfl, rfl⟩ := List.cons.inj e; exact absurd (hl _ _ rfl) (by decide)
    · obtain ⟨rfl, rfl⟩ := List.cons.inj e; exact absurd (hl _ _ rfl) (by decide)
    · obtain ⟨rfl, rfl⟩ := List.cons.inj e; exact ⟨rfl, T⟩
    · obtain ⟨rfl, rfl⟩ := List.cons.inj e; exact absurd (hl _ _ rfl) (by decide)
    · obtain ⟨rfl, rfl⟩ := List.cons.inj e; exact ⟨rfl, T⟩
  · rcases hi5 with rfl | rfl | rfl | rfl | rfl
    · obtain ⟨rfl, rfl⟩ := List.cons.inj e; exact ⟨rfl, T⟩
    · obtain ⟨rfl, rfl⟩ := List.cons.inj e; exact ⟨rfl, T⟩
    · obtain ⟨rfl, rfl⟩ := List.cons.inj e; exact absurd (hl _ _ rfl) (by decide)
    · obtain ⟨rfl, rfl⟩ := List.cons.inj e; exact ⟨rfl, T⟩
    · cases e
theorem excands {u : Int} {i : Nat} {q : WFq} (hi : i < 5) (S : ExT u (exTab i).1 (exTab i).2 q) : cands q none ≠ [] := fun hc => by
  have hi5 := lt5 hi
  rcases hi5 with rfl | rfl | rfl | rfl | rfl
  · have := (S.in0 rfl).1; rw [hc] at this; cases this
  · have := (S.in0 rfl).1; rw [hc] at this; cases this
  · have := (S.in0 rfl).1; rw [hc] at this; cases this
  · have := (S.in0 rfl).1; rw [hc] at this; cases this
  · have := (S.in0 rfl).1; rw [hc] at this; cases this
theorem extab_len (i : Nat) : (exTab i).1.length ≤ 5 ∧ (exTab i).2.length ≤ 5 := by
  match i with
  | 0 => decide
  | 1 => decide
  | 2 => decide
  | 3 => decide
  | 4 => decide
  | _ + 5 => exact ⟨Nat.zero_le _, Nat.zero_le _⟩
noncomputable def exPuts : List (Nat × Int) := [(0, 6), (1, 6), (1, 6), (1, 6), (0, 1)]
noncomputable def exPut : Nat → (List Int × List Int) × Int × Int
  | 0 => (([], []), 0, 0)
  | 1 => (([18], []), 6, 0)
  | 2 => (([18], [6]), 6, 6)
  | 3 => (([18], [6, 12]), 6, 12)
  | 4 => (([18], [6, 12, 18]), 6, 18)
  | _ => (([18, 21], [6, 12, 18]), 7, 18)
theorem expstep {u : Int} {i k : Nat} {size thing : Int} {q q' : WFq} (hi : exPuts[i]? = some (k, size)) (S : ExQ u (exPut i).1.1 (exPut i).1.2 (exPut i).2.1 (exPut i).2.2 q) (h : PutQ q k size thing q') :
    ExQ u (exPut (i + 1)).1.1 (exPut (i + 1)).1.2 (exPut (i + 1)).2.1 (exPut (i + 1)).2.2 q' := by
  match i, hi with
  | 0, hi => obtain ⟨rfl, rfl⟩ := Prod.mk.inj (Option.some.inj hi); exact (exput S (by decide) (by decide) h).1 rfl
  | 1, hi => obtain ⟨rfl, rfl⟩ := Prod.mk.inj (Option.some.inj hi); exact (exput S (by decide) (by decide) h).2 rfl
  | 2, hi => obtain ⟨rfl, rfl⟩ := Prod.mk.inj (Option.some.inj hi); exact (exput S (by decide) (by decide) h).2 rfl
  | 3, hi => obtain ⟨rfl, rfl⟩ := Prod.mk.inj (Option.some.inj hi); exact (exput S (by decide) (by decide) h).2 rfl
  | 4, hi => obtain ⟨rfl, rfl⟩ := Prod.mk.inj (Option.some.inj hi); exact (exput S (by decide) (by decide) h).1 rfl
  | _ + 5, hi => cases hi
theorem exput_len (i : Nat) : (exPut i).1.1.length ≤ 5 ∧ (exPut i).1.2.length ≤ 5 ∧ (exPut i).2.1 ≤ 40 ∧ (exPut i).2.2 ≤ 40 := by
  match i with
  | 0 => decide
  | 1 => decide
  | 2 => decide
  | 3 => decide
  | 4 => decide
  | _ + 5 => show 2 ≤ 5 ∧ 3 ≤ 5 ∧ (7 : Int) ≤ 40 ∧ (18 : Int) ≤ 40; decide
theorem ex_init {q : WFq} (U0 : 0 < q.unit) (dv : ∀ x ∈ [(1 : Int), 3], ∃ y, q.unit = y * x) (ht : q.time = 0) (hs : q.steps = [(1 : Int), 3].map (fun z => q.unit.fdiv z)) (hl : q.last = List.replicate 2 0) (hrl : q.rows.length = 2)
    (hr : ∀ r ∈ q.rows, r.most = 9 ∧ r.moct = 99 ∧ r.octs = 0 ∧ r.things = [] ∧ r.fins = []) : ∃ u, ExQ u (exPut 0).1.1 (exPut 0).1.2 (exPut 0).2.1 (exPut 0).2.2 q := by
  obtain ⟨u, hu⟩ := dv 3 (by simp)
  have hu0 : 0 < u := by omega
  obtain ⟨r0, r1, er⟩ : ∃ r0 r1, q.rows = [r0, r1] := by
    match h : q.rows, hrl with
    | [x, y], _ => exact ⟨x, y, rfl⟩
  have h0 := hr r0 (by rw [er]; simp)
  have h1 := hr r1 (by rw [er]; simp)
  refine ⟨u, hu0, ?_, ?_, ht, r0, r1, er, ⟨h0.1, h0.2.1, h0.2.2.1, by rw [h0.2.2.2.2]; rfl, by rw [h0.2.2.2.1]; rfl⟩, ⟨h1.1, h1.2.1, h1.2.2.1, by rw [h1.2.2.2.2]; rfl, by rw [h1.2.2.2.1]; rfl⟩⟩
  · rw [hs, hu]
    simp only [List.map_cons, List.map_nil]
    rw [Int.fdiv_one, Int.mul_fdiv_cancel _ (by decide), Int.mul_comm]
  · rw [hl]; simp [exPut, lastZ, List.replicate]
end Part29
section Part30
section
variable {prog : Program} {w : World} {A : Around} {E : Value → Shared → Prop} {s : Shared} {h₀ : Heap} {env : Env} {target : PySem.Expr} {body : List Stmt} {Q : Flow → Shared → Prop} {ws : List (Addr × String)} {keep news : List (Addr × Obj)} {m₀ : Str → Option Value}
theorem items_list {vs : List Value} (J : Nat → (Str → Option Value) → List (Addr × Obj) → Prop) (hk : ∀ i m n, J i m n → SubL keep n) (h0 : J 0 m₀ news)
    (fin : ∀ m₁ n h tk, J vs.length m₁ n → Fr h₀ env.locals h m₁ → News h₀ env.locals h n → Q .next { s with heap := h, toks := tk })
    (step : ∀ i x m₁ n h tk, vs[i]? = some x → J i m₁ n → Fr h₀ env.locals h m₁ → AllObj ws (fun its => News h₀ env.locals h (its ++ n) →
      wpAny (model prog w) A (assign target env x) (fun _ s₂ => wpAny (model prog w) A (execs body env) (UnrPostW h₀ env.locals { s with heap := h, toks := tk } its (fun m' n' => J (i + 1) m' n') Q) E s₂) E { s with heap := h, toks := tk })) :
    ItemsRest prog w A E h₀ env target body Q s ws keep (vs.map .val) m₀ news := by
  have key : ∀ (rs : List Value) (i : Nat) (m₁ : Str → Option Value) (n : List (Addr × Obj)), i + rs.length = vs.length → vs.drop i = rs → J i m₁ n → ItemsRest prog w A E h₀ env target body Q s ws keep (rs.map .val) m₁ n := by
    intro rs
    induction rs with
    | nil => intro i m₁ n hi hd hP
             have : i = vs.length := by simpa using hi
             subst this
             exact ItemsRest.zero fun h tk F N => fin m₁ n h tk hP F N
    | cons x r ih =>
      intro i m₁ n hi hd hP
      have hx : vs[i]? = some x := by
        have := congrArg List.head? hd
        simpa [List.head?_drop] using this
      have hd' : vs.drop (i + 1) = r := by
        have := congrArg List.tail hd
        simpa [List.tail_drop] using this
      refine ItemsRest.val fun h tk F => ?_
      refine AllObj.mono (fun its hh N => ?_) (step i x m₁ n h tk hx hP F)
      refine wpAny_mono (hh N) (fun _ s₂ h₂ => wpAny_mono h₂ (fun f s₃ p => UnrPostW.monoR ?_ p) fun _ _ e => e) fun _ _ e => e
      intro m' n' hP'
      exact ⟨hk _ _ _ hP', ih (i + 1) m' n' (by simp only [List.length_cons] at hi; omega) hd' hP'⟩
  exact key vs 0 m₀ news (Nat.zero_add _) rfl h0
end
theorem unrW_end {h₀ : Heap} {L I : Addr} {oI : Obj} {J : (Str → Option Value) → List (Addr × Obj) → Prop} {m' : Str → Option Value} {news' : List (Addr × Obj)} {s₁ : Shared} {h' : Heap} {tk : Nat} (F : Fr h₀ L h' m') (N : News h₀ L h' news') (hI : (I, oI) ∈ news') (hj : J m' (news'.filter fun p => decide (p.1 ≠ I))) :
    UnrEndW h₀ L s₁ [(I, oI)] J { s₁ with heap := h', toks := tk } :=
  ⟨h', tk, m', _, rfl, F, fun p hp => by
    rcases List.mem_cons.mp hp with rfl | hp
    · exact N _ hI
    · exact N _ (List.mem_filter.mp hp).1, fun p hp q hq e => by
    have h1 := (List.mem_filter.mp hp).2
    rw [List.mem_singleton.mp hq] at e
    simp only [decide_eq_true_eq] at h1
    exact h1 e, hj⟩
theorem Qst.dropI {w : World} {base news : List (Addr × Obj)} {ex : List Addr} {q : WFq} {h₀ h : Heap} {L I : Addr} {oI : Obj} (S : Qst w ((I, oI) :: base) ex news q) (N : News h₀ L h news) (hc : oI.cls ≠ .type "tuple") (hb : ∀ p ∈ base, @Ne Nat p.1 I) : Qst w base ex (news.filter fun p => decide (p.1 ≠ I)) q :=
  have nt : NoTup [I] news := fun a ha => ⟨oI, by rw [List.mem_singleton.mp ha]; exact S.bk _ (List.mem_cons_self ..), hc⟩
  have hk : Keeps [I] news (news.filter fun p => decide (p.1 ≠ I)) := fun p hp hn => List.mem_filter.mpr ⟨hp, by simpa using hn⟩
  have nQ : I ∉ adrQ q := S.bq (I, oI) (List.mem_cons_self ..)
  have nE : I ∉ ex := S.be (I, oI) (List.mem_cons_self ..)
  { S with
    qi := S.qi.keeps N nt (fun a ha e => nQ (List.mem_singleton.mp e ▸ ha)) hk
    bk := fun p hp => List.mem_filter.mpr ⟨S.bk p (List.mem_cons_of_mem _ hp), by simpa using hb p hp⟩
    bq := fun p hp => S.bq p (List.mem_cons_of_mem _ hp)
    be := fun p hp => S.be p (List.mem_cons_of_mem _ hp)
    he := fun a ha => by
      obtain ⟨o, h1, h2⟩ := S.he a ha
      exact ⟨o, hk _ h1 (fun e => nE (List.mem_singleton.mp e ▸ ha)), h2⟩ }
/-- a queue without things, when one object more is turned -/
theorem WFIn.empty {w : World} {news news' : List (Addr × Obj)} {q : WFq} (hq : WFIn w news q) (he : ∀ r ∈ q.rows, r.things = []) (hs : ∀ p ∈ news, p.1 ∈ adrQ q → p ∈ news') : WFIn w news' q := by
  refine gl fun G9 hG9 => ?_
  obtain ⟨h1, ⟨k1, k2, k3, k4, k5, k6, t1, t2, h2⟩, ⟨c4, sv, h3, hisv⟩, ⟨c5, h4⟩, ⟨c6, h5⟩, ⟨c1, lv, h6, hilv⟩, h7⟩ := hq
  refine hG9 ?_
  clear hG9 G9
  refine ⟨hs _ h1 (by simp [adrQ]), ⟨k1, k2, k3, k4, k5, k6, t1, t2, hs _ h2 (by simp [adrQ])⟩, ⟨c4, sv, hs _ h3 (by simp [adrQ]), hisv⟩, ⟨c5, hs _ h4 (by simp [adrQ])⟩, ⟨c6, hs _ h5 (by simp [adrQ])⟩, ⟨c1, lv, hs _ h6 (by simp [adrQ]), hilv⟩, fun r hr => ?_⟩
  have hin : ∀ a ∈ adrR r, a ∈ adrQ q := fun a ha => by
    simp only [adrQ, List.mem_cons, List.mem_flatMap]
    exact .inr (.inr (.inr (.inr (.inr (.inr ⟨r, hr, ha⟩)))))
  refine gl fun G9 hG9 => ?_
  obtain ⟨⟨g1, ⟨a1, a2, a3, a4, a5, b1, b2, b3, b4, b5, g2⟩, c, g3⟩, ⟨c', nv', g4, g5⟩, _⟩ := h7 r hr
  refine hG9 ?_
  clear hG9 G9
  exact ⟨⟨hs _ g1 (hin _ (by simp [adrR])), ⟨a1, a2, a3, a4, a5, b1, b2, b3, b4, b5, hs _ g2 (hin _ (by simp [adrR]))⟩, c, hs _ g3 (hin _ (by simp [adrR]))⟩, ⟨c', nv', hs _ g4 (hin _ (by simp [adrR])), g5⟩, fun x hx => by rw [he r hr] at hx; cases hx⟩
/-- the queues are laid into their cell -/
theorem law_start {prog : Program} {w : World} {old nwq base : List (Addr × Obj)} {q : WFq} {src qc : Addr} {so c2 : Obj} (qi : WFIn w nwq q) (nq : (adrQ q).Nodup) (fq : ∀ a ∈ adrQ q, ∀ p ∈ old, @Ne Nat p.1 a) (kq : ∀ p ∈ old, p ∈ nwq) (he : ∀ r ∈ q.rows, r.things = [])
    (hS : SrcOk prog w src so) (hsrc : (src, so) ∈ old) (hqc : ∃ o, (qc, o) ∈ old) (hne : @Ne Nat src qc) (hb : ∀ p ∈ base, p = (qc, c2) ∨ (p ∈ old ∧ @Ne Nat p.1 qc ∧ @Ne Nat p.1 src)) :
    Qst w base [src] ((qc, c2) :: nwq.filter fun p => decide (p.1 ≠ qc)) q ∧ SrcIn prog w ((qc, c2) :: nwq.filter fun p => decide (p.1 ≠ qc)) src := by
  have ks : ∀ p ∈ nwq, p.1 ≠ qc → p ∈ (qc, c2) :: nwq.filter fun p => decide (p.1 ≠ qc) := fun p hp hn => List.mem_cons_of_mem _ (List.mem_filter.mpr ⟨hp, by simpa using hn⟩)
  have hs : SrcIn prog w ((qc, c2) :: nwq.filter fun p => decide (p.1 ≠ qc)) src := ⟨so, ks _ (kq _ hsrc) hne, hS⟩
  obtain ⟨oq, hoq⟩ := hqc
  refine ⟨⟨WFIn.empty qi he fun p hp ha => ks p hp (fun e => fq _ ha _ hoq e.symm), nq, fun p hp => ?_, fun p hp hm => ?_, fun p hp hm => ?_, fun a ha hm => ?_, hs.noTup⟩, hs⟩
  · rcases hb p hp with rfl | ⟨h1, h2, _⟩
    · exact List.mem_cons_self ..
    · exact ks p (kq p h1) h2
  · rcases hb p hp with rfl | ⟨h1, _, _⟩
    · exact fq _ hm _ hoq rfl
    · exact fq _ hm p h1 rfl
  · rw [List.mem_singleton] at hm
    rcases hb p hp with rfl | ⟨_, _, h3⟩
    · exact hne hm.symm
    · exact h3 hm
  · rw [List.mem_singleton.mp ha] at hm
    exact fq _ hm _ hsrc rfl
end Part30
section Part31
theorem allLt_ne {d : Nat} {l : List (Addr × Obj)} (h : AllLt d l) : ∀ p ∈ l, @Ne Nat p.1 d := fun p hp => Nat.ne_of_lt (allLt_mem h p hp)
noncomputable def PutIn (vs : List Value) (BX : List (Addr × Obj)) : Prop := ∀ (i : Nat) (x : Value), vs[i]? = some x → ∃ (T : Addr) (k : Nat) (size : Int) (u u' : Tok) (n : Nat), x = .ref T ∧ (T, tupO [.int (k : Int) u, .int size u'] n) ∈ BX ∧ exPuts[i]? = some (k, size)
theorem ex_begin {prog : Program} {w : World} {h₀ h : Heap} {L src t0 t1 t2 t3 t4 l5 : Addr} {a0 a1 a2 a3 a4 a5 a6 a7 a8 a9 : Tok} {n0 n1 n2 n3 n4 cl : Nat} {R B0 : List (Addr × Obj)} {q : WFq}
    (N : News h₀ L h ((l5, listOf [.ref t0, .ref t1, .ref t2, .ref t3, .ref t4].toArray cl) :: (t4, tupO [.int 0 a8, .int 1 a9] n4) :: (t3, tupO [.int 1 a6, .int 6 a7] n3) :: (t2, tupO [.int 1 a4, .int 6 a5] n2) :: (t1, tupO [.int 1 a2, .int 6 a3] n1) :: (t0, tupO [.int 0 a0, .int 6 a1] n0) :: R))
    (S : Qst w B0 [src] R q) (hs : SrcIn prog w R src) (g0 : AllLt t0 R) (g1 : AllLt t1 ((t0, tupO [.int 0 a0, .int 6 a1] n0) :: R)) (g2 : AllLt t2 ((t1, tupO [.int 1 a2, .int 6 a3] n1) :: (t0, tupO [.int 0 a0, .int 6 a1] n0) :: R))
    (g3 : AllLt t3 ((t2, tupO [.int 1 a4, .int 6 a5] n2) :: (t1, tupO [.int 1 a2, .int 6 a3] n1) :: (t0, tupO [.int 0 a0, .int 6 a1] n0) :: R))
    (g4 : AllLt t4 ((t3, tupO [.int 1 a6, .int 6 a7] n3) :: (t2, tupO [.int 1 a4, .int 6 a5] n2) :: (t1, tupO [.int 1 a2, .int 6 a3] n1) :: (t0, tupO [.int 0 a0, .int 6 a1] n0) :: R))
    (g5 : AllLt l5 ((t4, tupO [.int 0 a8, .int 1 a9] n4) :: (t3, tupO [.int 1 a6, .int 6 a7] n3) :: (t2, tupO [.int 1 a4, .int 6 a5] n2) :: (t1, tupO [.int 1 a2, .int 6 a3] n1) :: (t0, tupO [.int 0 a0, .int 6 a1] n0) :: R)) :
    ∃ (NW BX : List (Addr × Obj)) (vs : List Value), News h₀ L h NW ∧ Qst w BX [src] NW q ∧ SrcIn prog w NW src ∧ (∀ p ∈ B0, p ∈ BX) ∧ (l5, listOf vs.toArray cl) ∈ BX ∧ PutIn vs BX ∧ vs.length = 5 ∧ [Value.ref t0, .ref t1, .ref t2, .ref t3, .ref t4] = vs := by
  have S0 := S.iter (oI := tupO [.int 0 a0, .int 6 a1] n0) (allLt_ne g0)
  have S1 := S0.iter (oI := tupO [.int 1 a2, .int 6 a3] n1) (allLt_ne g1)
  have S2 := S1.iter (oI := tupO [.int 1 a4, .int 6 a5] n2) (allLt_ne g2)
  have S3 := S2.iter (oI := tupO [.int 1 a6, .int 6 a7] n3) (allLt_ne g3)
  have S4 := S3.iter (oI := tupO [.int 0 a8, .int 1 a9] n4) (allLt_ne g4)
  have S5 := S4.iter (oI := listOf [.ref t0, .ref t1, .ref t2, .ref t3, .ref t4].toArray cl) (allLt_ne g5)
  refine ⟨_, _, _, N, S5, hs.up.up.up.up.up.up, fun p hp => by simp only [List.mem_cons, hp, or_true], List.mem_cons_self .., fun i x hx => ?_, rfl, rfl⟩
  match i, hx with
  | 0, hx => cases hx; exact ⟨t0, 0, 6, a0, a1, n0, rfl, by simp only [List.mem_cons]; right; right; right; right; right; left; rfl, rfl⟩
  | 1, hx => cases hx; exact ⟨t1, 1, 6, a2, a3, n1, rfl, by simp only [List.mem_cons]; right; right; right; right; left; rfl, rfl⟩
  | 2, hx => cases hx; exact ⟨t2, 1, 6, a4, a5, n2, rfl, by simp only [List.mem_cons]; right; right; right; left; rfl, rfl⟩
  | 3, hx => cases hx; exact ⟨t3, 1, 6, a6, a7, n3, rfl, by simp only [List.mem_cons]; right; right; left; rfl, rfl⟩
  | 4, hx => cases hx; exact ⟨t4, 0, 1, a8, a9, n4, rfl, by simp only [List.mem_cons]; right; left; rfl, rfl⟩
  | _ + 5, hx => cases hx
theorem dat_name {o : Obj} {d : Data} (h : o.data = d) : ∃ o' : Obj, o' = o ∧ o'.data = d := ⟨o, rfl, h⟩
end Part31
section Part32
theorem exput_k {i k : Nat} {size : Int} (h : exPuts[i]? = some (k, size)) : k < 2 ∧ 0 ≤ size ∧ size ≤ 6 := by
  match i, h with
  | 0, h => cases h; decide
  | 1, h => cases h; decide
  | 2, h => cases h; decide
  | 3, h => cases h; decide
  | 4, h => cases h; decide
  | _ + 5, h => cases h
theorem WFIn.keepsG {w : World} {news news' : List (Addr × Obj)} {q : WFq} (hq : WFIn w news q) (ha : ∀ a ∈ adrQ q, ∀ p ∈ news, p.1 = a → p ∈ news') (ht : ∀ r ∈ q.rows, ∀ x ∈ r.things, ∀ p ∈ news, p.1 = x.1 → p ∈ news') : WFIn w news' q := by
  refine gl fun G9 hG9 => ?_
  obtain ⟨h1, ⟨k1, k2, k3, k4, k5, k6, t1, t2, h2⟩, ⟨c4, sv, h3, hisv⟩, ⟨c5, h4⟩, ⟨c6, h5⟩, ⟨c1, lv, h6, hilv⟩, h7⟩ := hq
  refine hG9 ?_
  clear hG9 G9
  refine ⟨ha _ (by simp [adrQ]) _ h1 rfl, ⟨k1, k2, k3, k4, k5, k6, t1, t2, ha _ (by simp [adrQ]) _ h2 rfl⟩, ⟨c4, sv, ha _ (by simp [adrQ]) _ h3 rfl, hisv⟩, ⟨c5, ha _ (by simp [adrQ]) _ h4 rfl⟩, ⟨c6, ha _ (by simp [adrQ]) _ h5 rfl⟩, ⟨c1, lv, ha _ (by simp [adrQ]) _ h6 rfl, hilv⟩, fun r hr => ?_⟩
  have hin : ∀ a ∈ adrR r, a ∈ adrQ q := fun a ha => by
    simp only [adrQ, List.mem_cons, List.mem_flatMap]
    exact .inr (.inr (.inr (.inr (.inr (.inr ⟨r, hr, ha⟩)))))
  refine gl fun G9 hG9 => ?_
  obtain ⟨⟨g1, ⟨a1, a2, a3, a4, a5, b1, b2, b3, b4, b5, g2⟩, c, g3⟩, ⟨c', nv', g4, g5⟩, g6⟩ := h7 r hr
  refine hG9 ?_
  clear hG9 G9
  refine ⟨⟨ha _ (hin _ (by simp [adrR])) _ g1 rfl, ⟨a1, a2, a3, a4, a5, b1, b2, b3, b4, b5, ha _ (hin _ (by simp [adrR])) _ g2 rfl⟩, c, ha _ (hin _ (by simp [adrR])) _ g3 rfl⟩, ⟨c', nv', ha _ (hin _ (by simp [adrR])) _ g4 rfl, g5⟩, fun x hx => ?_⟩
  refine gl fun G9 hG9 => ?_
  obtain ⟨u1, u2, n, h⟩ := g6 x hx
  refine hG9 ?_
  clear hG9 G9
  exact ⟨u1, u2, n, ht r hr x hx _ h rfl⟩
theorem take_sub {q q' : WFq} {k : Nat} {size thing : Int} (h : TakeQ q k size thing q') : ∀ r' ∈ q'.rows, ∀ x ∈ r'.things, ∃ r ∈ q.rows, x ∈ r.things := by
  obtain ⟨r, D, restT, f, restF, hr, ht, hf, rfl⟩ := h
  intro r' hr' x hx
  rcases List.mem_or_eq_of_mem_set hr' with h1 | rfl
  · exact ⟨r', h1, hx⟩
  · exact ⟨r, List.mem_of_getElem? hr, by rw [ht]; exact List.mem_cons_of_mem _ hx⟩
theorem take_end {prog : Program} {w : World} {h₀ h' : Heap} {L I C D src : Addr} {m : Str → Option Value} {s₁ : Shared} {oI oC oD : Obj} {tk : Nat} {nw news' BX : List (Addr × Obj)} {q q3 : WFq} {k : Nat} {size thing : Int} {v : Value} {J : Value → List (Addr × Obj) → Prop}
    (F : Fr h₀ L h' m) (N : News h₀ L h' news') (off : LCg.Off3 I C D nw) (S : Qst w BX [src] nw q) (hs : SrcIn prog w nw src) (hT : TakeQ q k size thing q3) (hq3 : WFIn w news' q3) (hadr : adrQ q3 = adrQ q)
    (hk : ∀ p ∈ (I, oI) :: (C, oC) :: (D, oD) :: nw, p.1 ∉ adrQ q → p ∈ news') (hj : ∀ nw', Qst w BX [src] nw' q3 → SrcIn prog w nw' src → J v nw') :
    LCg.CompEnd h₀ L m s₁ I oI C oC D oD (fun _ => True) J v { s₁ with heap := h', toks := tk } := by
  have om := LCg.Off3.mem off
  have hqn : ∀ a ∈ adrQ q, ∃ o, (a, o) ∈ nw := fun a ha => by obtain ⟨o, h1, _⟩ := S.qi.noTup a ha; exact ⟨o, h1⟩
  have nI : I ∉ adrQ q ∧ C ∉ adrQ q ∧ D ∉ adrQ q := ⟨fun h => by obtain ⟨o, h1⟩ := hqn _ h; exact (om _ h1).1 rfl, fun h => by obtain ⟨o, h1⟩ := hqn _ h; exact (om _ h1).2.1 rfl, fun h => by obtain ⟨o, h1⟩ := hqn _ h; exact (om _ h1).2.2 rfl⟩
  have kf : ∀ p ∈ news', p.1 ≠ I ∧ p.1 ≠ C ∧ p.1 ≠ D → p ∈ news'.filter fun p => decide (p.1 ≠ I ∧ p.1 ≠ C ∧ p.1 ≠ D) := fun p hp hn => List.mem_filter.mpr ⟨hp, by simpa using hn⟩
  have kn : ∀ p ∈ nw, p.1 ∉ adrQ q → p ∈ news'.filter fun p => decide (p.1 ≠ I ∧ p.1 ≠ C ∧ p.1 ≠ D) := fun p hp hn => kf p (hk p (by simp only [List.mem_cons, hp, or_true]) hn) (om p hp)
  have ks : SrcIn prog w (news'.filter fun p => decide (p.1 ≠ I ∧ p.1 ≠ C ∧ p.1 ≠ D)) src := by
    obtain ⟨so, h1, h2⟩ := hs
    exact ⟨so, kn _ h1 (S.qe src (List.mem_singleton.mpr rfl)), h2⟩
  refine LCg.CompEnd.intro F N (news'.filter fun p => decide (p.1 ≠ I ∧ p.1 ≠ C ∧ p.1 ≠ D)) (fun p hp => ?_) (off3_of fun p hp => by simpa using (List.mem_filter.mp hp).2) trivial (hj _ ⟨?_, hadr ▸ S.nq, fun p hp => kn p (S.bk p hp) (S.bq p hp), fun p hp => hadr ▸ S.bq p hp, S.be, fun a ha => hadr ▸ S.qe a ha, ks.noTup⟩ ks)
  · simp only [List.mem_cons] at hp
    rcases hp with rfl | rfl | rfl | hp
    · exact hk _ (by simp) nI.1
    · exact hk _ (by simp) nI.2.1
    · exact hk _ (by simp) nI.2.2
    · exact (List.mem_filter.mp hp).1
  · refine hq3.keepsG (fun a ha p hp e => ?_) fun r' hr' x hx p hp e => ?_
    · obtain ⟨o, h1⟩ := hqn a (hadr ▸ ha)
      have := om _ h1
      exact kf p hp (by rw [e]; exact this)
    · obtain ⟨r, hr, hx2⟩ := take_sub hT r' hr' x hx
      refine gl fun G9 hG9 => ?_
      obtain ⟨_, _, _, _, _, _, h7⟩ := S.qi
      refine hG9 ?_
      clear hG9 G9
      refine gl fun G9 hG9 => ?_
      obtain ⟨u1, u2, n, h1⟩ := (h7 r hr).2.2 x hx2
      refine hG9 ?_
      clear hG9 G9
      have := om _ h1
      exact kf p hp (by rw [e]; exact this)
section
variable {prog : Program} {w : World} {A : Around} {E : Value → Shared → Prop} {s : Shared} {h₀ : Heap} {L d : Addr} {news : List (Addr × Obj)} {v0 v1 v2 : Value} {n : Nat} {u : Tok} {value slice : PySem.Expr} {Q : Value → Shared → Prop}
theorem my_trip0 (N : News h₀ L s.heap news) (hm : (d, tupO [v0, v1, v2] n) ∈ news) (h : Q v0 s)
    (hs : subscripted slice false (.ref d) (.int 0 u) = operate [.ref d, .int 0 u] (getItem (.ref d) (.int 0 u)) := by with_unfolding_all rfl) :
    wpAny (model prog w) A (subscriptTail value slice (.ref d) (.int 0 u)) Q E s :=
  kba_turn (value' := PySem.Expr.Name (PySem.Str.ofString "_") ⟨0, 0, 0, 0⟩) (fun _ => rfl) (kim_tup (j := 0) (l := [v0, v1, v2]) N hm rfl rfl (by decide) (by decide) (by rfl) rfl h hs (fun _ => rfl))
end
theorem ints_take {ys : List Value} {i : Nat} {x : Int} {t : Tok} (hy : IntsAre ys (exNext.take i)) (hx : exNext[i]? = some x) : IntsAre (ys ++ [Value.int x t]) (exNext.take (i + 1)) := by
  rw [List.take_add_one, hx]
  exact IntsAre.append hy (.cons _ _ .nil)
end Part32
section Part33
/-- ints that are drawn one by one -/
noncomputable def DrawJ (prog : Program) (w : World) (src : Addr) (BX : List (Addr × Obj)) (lo hi : Int) (i : Nat) (ys : List Value) (nw : List (Addr × Obj)) : Prop :=
  SrcIn prog w nw src ∧ (∀ p ∈ BX, p ∈ nw) ∧ ∃ ls : List Int, IntsAre ys ls ∧ ls.length = i ∧ ∀ x ∈ ls, lo ≤ x ∧ x ≤ hi
theorem draw_step {prog : Program} {w : World} {h₀ h' : Heap} {L I C D src : Addr} {m : Str → Option Value} {s₁ : Shared} {oI oC oD : Obj} {tk : Nat} {lo hi : Int} {nw news' BX : List (Addr × Obj)} {i : Nat} {ys : List Value} {r : Int} {t : Tok}
    (F : Fr h₀ L h' m) (N : News h₀ L h' news') (J : DrawJ prog w src BX lo hi i ys nw) (off : LCg.Off3 I C D nw) (hBs : ∀ p ∈ BX, @Ne Nat p.1 src) (hs : SrcIn prog w news' src) (hk : Keeps [src] ((I, oI) :: (C, oC) :: (D, oD) :: nw) news') (h0 : lo ≤ r ∧ r ≤ hi) :
    LCg.CompEnd h₀ L m s₁ I oI C oC D oD (fun _ => True) (fun y nw' => DrawJ prog w src BX lo hi (i + 1) (ys ++ [y]) nw') (.int r t) { s₁ with heap := h', toks := tk } := by
  refine gl fun G9 hG9 => ?_
  obtain ⟨⟨so, hso, hso2⟩, hb, ls, e1, e2, e3⟩ := J
  refine hG9 ?_
  clear hG9 G9
  have om := LCg.Off3.mem off
  have nI : @Ne Nat I src ∧ @Ne Nat C src ∧ @Ne Nat D src := ⟨Ne.symm (om _ hso).1, Ne.symm (om _ hso).2.1, Ne.symm (om _ hso).2.2⟩
  have mI : (I, oI) ∈ news' := hk _ (by simp) (fun e => nI.1 (List.mem_singleton.mp e))
  have mC : (C, oC) ∈ news' := hk _ (by simp) (fun e => nI.2.1 (List.mem_singleton.mp e))
  have mD : (D, oD) ∈ news' := hk _ (by simp) (fun e => nI.2.2 (List.mem_singleton.mp e))
  obtain ⟨so', hs1, hs2⟩ := hs
  refine LCg.CompEnd.intro F N (news'.filter fun p => decide (p.1 ≠ I ∧ p.1 ≠ C ∧ p.1 ≠ D)) (fun p hp => ?_) (off3_of fun p hp => by simpa using (List.mem_filter.mp hp).2) trivial ⟨⟨so', List.mem_filter.mpr ⟨hs1, ?_⟩, hs2⟩, fun p hp => List.mem_filter.mpr ⟨hk _ ?_ ?_, ?_⟩, ls ++ [r], IntsAre.append e1 (.cons _ _ .nil), by simp [e2], fun x hx => ?_⟩
  · simp only [List.mem_cons] at hp
    rcases hp with rfl | rfl | rfl | hp
    · exact mI
    · exact mC
    · exact mD
    · exact (List.mem_filter.mp hp).1
  · simp only [decide_eq_true_eq]; exact ⟨Ne.symm nI.1, Ne.symm nI.2.1, Ne.symm nI.2.2⟩
  · simp only [List.mem_cons, hb p hp, or_true]
  · exact fun e => hBs p hp (List.mem_singleton.mp e)
  · simp only [decide_eq_true_eq]; exact om _ (hb p hp)
  · rcases List.mem_append.mp hx with hx | hx
    · exact e3 x hx
    · rw [List.mem_singleton.mp hx]; exact h0
theorem weights_mem {v : Value} {a b c d e : Tok} (h : v ∈ [Value.int 1 a, .int 2 b, .int 3 c, .int 5 d, .int 7 e]) : ∃ x t, v = .int x t ∧ 1 ≤ x ∧ x ≤ 7 := by
  simp only [List.mem_cons, List.not_mem_nil, or_false] at h
  rcases h with rfl | rfl | rfl | rfl | rfl
  · exact ⟨1, _, rfl, by decide⟩
  · exact ⟨2, _, rfl, by decide⟩
  · exact ⟨3, _, rfl, by decide⟩
  · exact ⟨5, _, rfl, by decide⟩
  · exact ⟨7, _, rfl, by decide⟩
theorem Keeps.tail {bad : List Addr} {x : Addr × Obj} {l l' : List (Addr × Obj)} (h : Keeps bad (x :: l) l') : Keeps bad l l' := fun p hp hn => h p (List.mem_cons_of_mem _ hp) hn
theorem off1_src {prog : Program} {w : World} {src so : Addr} {nw : List (Addr × Obj)} (o : LCg.Off1 so nw) (h : SrcIn prog w nw src) : @Ne Nat so src := by
  obtain ⟨ob, h1, _⟩ := h
  exact Ne.symm (off1_mem o _ h1)
theorem take2 {ws : List Value} {ls : List Int} (h : IntsAre ws (ls.take 2)) (hl : 2 ≤ ls.length) : ∃ (w0 w1 : Int) (a0 a1 : Tok), ws = [Value.int w0 a0, .int w1 a1] ∧ w0 ∈ ls ∧ w1 ∈ ls := by
  match ls, hl with
  | x :: y :: r, _ =>
    have h' : IntsAre ws [x, y] := h
    cases h' with
    | cons k t r' =>
      cases r' with
      | cons k2 t2 r2 =>
        cases r2
        exact ⟨_, _, _, _, rfl, by simp, by simp⟩
theorem SrcIn.tab {prog : Program} {w : World} {news : List (Addr × Obj)} {src P : Addr} {o : Obj} (h : SrcIn prog w news src) (hne : @Ne Nat src P) : SrcIn prog w ((P, o) :: news.filter fun p => decide (p.1 ≠ P)) src := (h.offI hne).up
end Part33
section Part34
theorem wo34 : True := by
  w_top off
  trivial
section
variable {prog : Program} {w : World} {A : Around} {E : Value → Shared → Prop} {env : Env} {s : Shared} {K : Frag} {h₀ : Heap} {C : Addr}
variable {nm q : Str} {N : Addr} {bs bm : List Value} {hdct : Bool} {sn : List Str} {sub : List Value} {ab : Bool} {col : Option Bool} {dd : Option Addr} {k0 k1 k2 k3 k5 : Option Value} {newId : String}
theorem raise_at {ex : PySem.Expr} {pos : Pos} {Q : Flow → Shared → Prop} (X : K.In h₀) (hC : K.lookup C = some (excClassObj nm q C N bs bm hdct sn sub ab col dd k0 k1 k2 k3 k5 newId)) (hbase : bm.contains (.type "BaseException") = true) (hh : A.handled = none)
    (h : wpAny (model prog w) A (eval ex env) (fun v s₁ => Hold (∃ e od t, v = .ref e ∧ (∀ b o, h₀.get? b = some o → s₁.heap.get? b = some o) ∧ s₁.heap.get? e = some (excO C od t) ∧ E (.ref e) s₁)) E s) :
    wpAny (model prog w) A (exec (.Raise (some ex) none pos) env) Q E s :=
  my_raise (M := model prog w) (C := C) (nm := nm) (q := q) (N := N) (bs := bs) (bm := bm) (hdct := hdct) (sn := sn) (sub := sub) (ab := ab) (col := col) (dd := dd) (k0 := k0) (k1 := k1) (k2 := k2) (k3 := k3) (k5 := k5) (newId := newId) hbase hh
    (wpAny_mono h (fun v s₁ ⟨e, od, t, a, b, c, d⟩ => ⟨e, od, t, a, b _ _ (X _ _ hC), c, d⟩) fun _ _ x => x)
end
theorem ln40 : True := by
  k_with "my call ref" => ((fail_if_success (k_extra "off88")); (k_here; refine hold_ref [59] rfl ?_))
  trivial
section
variable {prog : Program} {w : World} {p : Program} {loose : List Str} {mean : ExcName → Option Value} {mg mb : Str → Option Value}
    {dp un : Nat} {gd : Option (List Code)} {cn : Str} {cs : Scope} {a : Addr} {ccd : Value} {cl : List (Str × Addr)} {outer : List Env} {A₀ : Around} {base h₀ : Heap} {L : Addr} {m : Str → Option Value} {s : Shared} {Q E : Value → Shared → Prop}
    {news : List (Addr × Obj)}
set_option maxHeartbeats 8000000 in
theorem init_r {wl ll : Addr} {wv lv : List Value} {c1 c2 : Nat}
    (B : Below A₀ base outer h₀) (F : Fr h₀ L s.heap m) (X : (hK w.params).In h₀) (T : Top p loose mean mg mb h₀) (hk : cs.kind = .function) (N : News h₀ L s.heap news) (hw : (wl, listOf wv.toArray c1) ∈ news) (hll : (ll, listOf lv.toArray c2) ∈ news) (hv : (wv = [] ∧ lv = []) ∨ ∃ t v, wv = [.int 0 t] ∧ lv = [v])
    (hdp : dp + 100 < recursionLimit) (hun : un + 1200 < cLine)
    (err : ∀ e h' g1 tk', RaisedN base (envX cn cs L a ccd cl :: outer) e (.ref 59) news h' → Fr h₀ L g1 m → g1.UpToSlots h' → E (.ref e) { s with heap := h', toks := tk' }) :
    wpAny (model prog w) (ktrTop dp un gd cn cs L a ccd cl outer) (call (.ref 165) [.ref wl, .ref ll]) Q E s := by
  have kf : (fun (_ : OpenLaw) (_ : Params → Frag) => True) PySem.Challenge.rw_pc0369_01 hK := by k_fill; trivial
  clear kf
  have hb9 : Base s := ⟨⟩
  k_dflt (refine' call_cls ?k1 ?k2 ?k3 ?k4 ?k5 ?k6 ?_; (case k1 => k_asm); (case k2 => k_asm); (case k3 => k_asm); (case k4 => k_is); (case k5 => k_is); (case k6 => k_is); k_whole)
  intro x dx h1 F1 N1 l1 l2
  k_lt2 l2
  have l1' := l1
  (try k_lt l1)
  k_dflt (refine' code_defC ?k1 ?k2 ?k3 ?k4 ?k5 ?kA ?kF ?kK ?k6 ?k7 ?k8 ?k9 ?kB ?kD ?_ ?c2 ?c3 ?c4; (case kA => exact rfl); (case kF => exact rfl); (case kK => first | exact rfl | assumption); (case k1 => k_asm); (case k2 => k_asm); (case k3 => k_asm); (case k4 => k_asm); (case k5 => k_asm); (case k6 => k_is); (case k7 => k_is); (case k8 => k_room); (case k9 => exact BindsTo.of_eq rfl); (case kB => exact rfl); (case kD => decide +kernel); (case c2 => exact rfl); (case c3 => exact rfl); (case c4 => exact rfl); k_whole)
  intro g1 L1 h2 tk1 cells FG1 F2 N2 Y1 B1 X1 T1 l3
  (try k_lt l3)
  have hY := CellsAre.one Y1
  obtain ⟨oc, hE, dc⟩ := hY
  subst hE
  clear Y1
  simp only [List.cons_append, List.nil_append] at N2
  (try dsimp only)
  (try k_fold)
  refine letMA ?_
  intro M9 A9
  rcases hv with ⟨rfl, rfl⟩ | ⟨t, v, rfl, rfl⟩
  · k_steps
    refine Hold.mk (raise_at X1 (C := 59) (by k_is) (by decide +kernel) (by rfl) ?_)
    k_steps
    refine Hold.mk ?_
    k_dflt (refine' exc59 ?k1 ?k2 ?k3 ?k4 ?k5 ?N ?d ?u ?_; (case k1 => k_asm); (case k2 => k_asm); (case k3 => k_asm); (case k4 => k_asm); (case k5 => first | exact rfl | assumption); (case N => k_asm); (case d => k_room); (case u => k_units))
    intro h3 tk3 e d od tp hfr F3 N3
    (try dsimp only at N3 ⊢)
    (try k_fold)
    have he3 := N3 (e, excO 59 (some d) tp) (by simp)
    have hne3 : ∀ p ∈ news, p.1 ≠ e := fun p hp => hfr p (by simp only [List.mem_cons, hp, or_true])
    k_steps
    refine Hold.mk ⟨e, some d, tp, rfl, F3.keep, he3.1, ?_⟩
    refine leave_exc (K := B1) (F := F3) (N := fun p hp => N3 p (by simp only [List.mem_cons, hp, or_true])) he3.1 hne3 he3.2.2 (by rfl) fun h' R U => ?_
    exact err _ _ _ _ R FG1 U
  · k_steps
    · exfalso
      rename List.isEmpty _ = true => hz
      simp at hz
    · refine Hold.mk (raise_at X1 (C := 59) (by k_is) (by decide +kernel) (by rfl) ?_)
      k_steps
      refine Hold.mk ?_
      k_dflt (refine' exc59 ?k1 ?k2 ?k3 ?k4 ?k5 ?N ?d ?u ?_; (case k1 => k_asm); (case k2 => k_asm); (case k3 => k_asm); (case k4 => k_asm); (case k5 => first | exact rfl | assumption); (case N => k_asm); (case d => k_room); (case u => k_units))
      intro h3 tk3 e d od tp hfr F3 N3
      (try dsimp only at N3 ⊢)
      (try k_fold)
      have he3 := N3 (e, excO 59 (some d) tp) (by simp)
      have hne3 : ∀ p ∈ news, p.1 ≠ e := fun p hp => hfr p (by simp only [List.mem_cons, hp, or_true])
      k_steps
      refine Hold.mk ⟨e, some d, tp, rfl, F3.keep, he3.1, ?_⟩
      refine leave_exc (K := B1) (F := F3) (N := fun p hp => N3 p (by simp only [List.mem_cons, hp, or_true])) he3.1 hne3 he3.2.2 (by rfl) fun h' R U => ?_
      exact err _ _ _ _ R FG1 U
end
section
variable {prog : Program} {w : World} {p : Program} {loose : List Str} {mean : ExcName → Option Value} {mg mb : Str → Option Value}
    {dp un : Nat} {gd : Option (List Code)} {cn : Str} {cs : Scope} {a : Addr} {ccd : Value} {cl : List (Str × Addr)} {outer : List Env} {A₀ : Around} {base h₀ : Heap} {L : Addr} {m : Str → Option Value} {s : Shared} {Q E : Value → Shared → Prop}
    {news : List (Addr × Obj)}
set_option maxHeartbeats 8000000 in
theorem drop_r {low high most : Int} {a1 a2 a3 : Tok}
    (B : Below A₀ base outer h₀) (F : Fr h₀ L s.heap m) (X : (hK w.params).In h₀) (T : Top p loose mean mg mb h₀) (hk : cs.kind = .function) (N : News h₀ L s.heap news) (hv : ¬ (0 ≤ low ∧ low < high) ∨ ((0 ≤ low ∧ low < high) ∧ ¬ (0 ≤ most ∧ most ≤ 10000)))
    (hdp : dp + 100 < recursionLimit) (hun : un + 1200 < cLine)
    (err : ∀ e h' g1 tk', RaisedN base (envX cn cs L a ccd cl :: outer) e (.ref 59) news h' → Fr h₀ L g1 m → g1.UpToSlots h' → E (.ref e) { s with heap := h', toks := tk' }) :
    wpAny (model prog w) (ktrTop dp un gd cn cs L a ccd cl outer) (call (.ref 228) [.int low a1, .int high a2, .int most a3]) Q E s := by
  have kf : (fun (_ : OpenLaw) (_ : Params → Frag) => True) PySem.Challenge.rw_pc0369_01 hK := by k_fill; trivial
  clear kf
  have hb9 : Base s := ⟨⟩
  k_dflt (refine' call_cls ?k1 ?k2 ?k3 ?k4 ?k5 ?k6 ?_; (case k1 => k_asm); (case k2 => k_asm); (case k3 => k_asm); (case k4 => k_is); (case k5 => k_is); (case k6 => k_is); k_whole)
  intro x dx h1 F1 N1 l1 l2
  k_lt2 l2
  (try k_lt l1)
  k_dflt (refine' code_def ?k1 ?k2 ?k3 ?k4 ?k5 ?kA ?kF ?kK ?k6 ?k7 ?k8 ?k9 ?kB ?_ ?c2 ?c3 ?c4 ?c5; (case kA => exact rfl); (case kF => exact rfl); (case kK => first | exact rfl | assumption); (case k1 => k_asm); (case k2 => k_asm); (case k3 => k_asm); (case k4 => k_asm); (case k5 => k_asm); (case k6 => k_is); (case k7 => k_is); (case k8 => k_room); (case k9 => exact BindsTo.of_eq rfl); (case c5 => decide); (case kB => exact locs rfl); (case c2 => exact rfl); (case c3 => exact rfl); (case c4 => exact rfl); k_whole)
  intro g1 L1 h2 FG1 F2 N2 B1 X1 T1
  (try dsimp only)
  (try k_fold)
  rcases hv with hv | ⟨⟨hv1, hv2⟩, hv⟩
  · by_cases hl : 0 ≤ low
    · have hlh : ¬ low < high := fun h => hv ⟨hl, h⟩
      k_steps
      refine Hold.mk (raise_at X1 (C := 59) (by k_is) (by decide +kernel) (by rfl) ?_)
      k_steps
      refine Hold.mk ?_
      k_dflt (refine' exc59 ?k1 ?k2 ?k3 ?k4 ?k5 ?N ?d ?u ?_; (case k1 => k_asm); (case k2 => k_asm); (case k3 => k_asm); (case k4 => k_asm); (case k5 => first | exact rfl | assumption); (case N => k_asm); (case d => k_room); (case u => k_units))
      intro h3 tk3 e d od tp hfr F3 N3
      (try dsimp only at N3 ⊢)
      (try k_fold)
      have he3 := N3 (e, excO 59 (some d) tp) (by simp)
      have hne3 : ∀ p ∈ news, p.1 ≠ e := fun p hp => hfr p (by simp only [List.mem_cons, hp, or_true])
      k_steps
      refine Hold.mk ⟨e, some d, tp, rfl, F3.keep, he3.1, ?_⟩
      refine leave_exc (K := B1) (F := F3) (N := fun p hp => N3 p (by simp only [List.mem_cons, hp, or_true])) he3.1 hne3 he3.2.2 (by rfl) fun h' R U => ?_
      exact err _ _ _ _ R FG1 U
    · k_steps
      refine Hold.mk (raise_at X1 (C := 59) (by k_is) (by decide +kernel) (by rfl) ?_)
      k_steps
      refine Hold.mk ?_
      k_dflt (refine' exc59 ?k1 ?k2 ?k3 ?k4 ?k5 ?N ?d ?u ?_; (case k1 => k_asm); (case k2 => k_asm); (case k3 => k_asm); (case k4 => k_asm); (case k5 => first | exact rfl | assumption); (case N => k_asm); (case d => k_room); (case u => k_units))
      intro h3 tk3 e d od tp hfr F3 N3
      (try dsimp only at N3 ⊢)
      (try k_fold)
      have he3 := N3 (e, excO 59 (some d) tp) (by simp)
      have hne3 : ∀ p ∈ news, p.1 ≠ e := fun p hp => hfr p (by simp only [List.mem_cons, hp, or_true])
      k_steps
      refine Hold.mk ⟨e, some d, tp, rfl, F3.keep, he3.1, ?_⟩
      refine leave_exc (K := B1) (F := F3) (N := fun p hp => N3 p (by simp only [List.mem_cons, hp, or_true])) he3.1 hne3 he3.2.2 (by rfl) fun h' R U => ?_
      exact err _ _ _ _ R FG1 U
  · by_cases hl : 0 ≤ most
    · have hlh : ¬ most ≤ 10000 := fun h => hv ⟨hl, h⟩
      k_steps
      refine Hold.mk (raise_at X1 (C := 59) (by k_is) (by decide +kernel) (by rfl) ?_)
      k_steps
      refine Hold.mk ?_
      k_dflt (refine' exc59 ?k1 ?k2 ?k3 ?k4 ?k5 ?N ?d ?u ?_; (case k1 => k_asm); (case k2 => k_asm); (case k3 => k_asm); (case k4 => k_asm); (case k5 => first | exact rfl | assumption); (case N => k_asm); (case d => k_room); (case u => k_units))
      intro h3 tk3 e d od tp hfr F3 N3
      (try dsimp only at N3 ⊢)
      (try k_fold)
      have he3 := N3 (e, excO 59 (some d) tp) (by simp)
      have hne3 : ∀ p ∈ news, p.1 ≠ e := fun p hp => hfr p (by simp only [List.mem_cons, hp, or_true])
      k_steps
      refine Hold.mk ⟨e, some d, tp, rfl, F3.keep, he3.1, ?_⟩
      refine leave_exc (K := B1) (F := F3) (N := fun p hp => N3 p (by simp only [List.mem_cons, hp, or_true])) he3.1 hne3 he3.2.2 (by rfl) fun h' R U => ?_
      exact err _ _ _ _ R FG1 U
    · k_steps
      refine Hold.mk (raise_at X1 (C := 59) (by k_is) (by decide +kernel) (by rfl) ?_)
      k_steps
      refine Hold.mk ?_
      k_dflt (refine' exc59 ?k1 ?k2 ?k3 ?k4 ?k5 ?N ?d ?u ?_; (case k1 => k_asm); (case k2 => k_asm); (case k3 => k_asm); (case k4 => k_asm); (case k5 => first | exact rfl | assumption); (case N => k_asm); (case d => k_room); (case u => k_units))
      intro h3 tk3 e d od tp hfr F3 N3
      (try dsimp only at N3 ⊢)
      (try k_fold)
      have he3 := N3 (e, excO 59 (some d) tp) (by simp)
      have hne3 : ∀ p ∈ news, p.1 ≠ e := fun p hp => hfr p (by simp only [List.mem_cons, hp, or_true])
      k_steps
      refine Hold.mk ⟨e, some d, tp, rfl, F3.keep, he3.1, ?_⟩
      refine leave_exc (K := B1) (F := F3) (N := fun p hp => N3 p (by simp only [List.mem_cons, hp, or_true])) he3.1 hne3 he3.2.2 (by rfl) fun h' R U => ?_
      exact err _ _ _ _ R FG1 U
end

theorem ln41 : True := by
  k_with "off88" => skip
  trivial
end Part34
section Part35
theorem law_lams {prog : Program} {w : World} {h₀ h : Heap} {L src D l2 l1 f0 f1 f2 f3 c0 c1 c2 c3 P : Addr} {oD oL2 oL1 o0 o1 o2 o3 p0 p1 p2 p3 ot ot' : Obj} {R : List (Addr × Obj)}
    (N : News h₀ L h ((D, oD) :: (l2, oL2) :: (f3, o3) :: (c3, p3) :: (f2, o2) :: (c2, p2) :: (l1, oL1) :: (f1, o1) :: (c1, p1) :: (f0, o0) :: (c0, p0) :: (P, ot) :: R)) (hs : SrcIn prog w ((P, ot') :: R) src) (hne : @Ne Nat src P) :
    ∃ BL, News h₀ L h BL ∧ SrcIn prog w BL src ∧ (D, oD) ∈ BL ∧ ((f0, o0) ∈ BL ∧ (c0, p0) ∈ BL) ∧ ((f1, o1) ∈ BL ∧ (c1, p1) ∈ BL) ∧ ((f2, o2) ∈ BL ∧ (c2, p2) ∈ BL) ∧ ((f3, o3) ∈ BL ∧ (c3, p3) ∈ BL) ∧ (P, ot) ∈ BL ∧ ∀ p ∈ R, p ∈ BL := by
  obtain ⟨so, h1, h2⟩ := hs
  have h3 : (src, so) ∈ R := by
    rcases List.mem_cons.mp h1 with h | h
    · exact absurd (congrArg Prod.fst h) hne
    · exact h
  refine ⟨_, N, ⟨so, by simp only [List.mem_cons, h3, or_true], h2⟩, by simp, ⟨by simp, by simp⟩, ⟨by simp, by simp⟩, ⟨by simp, by simp⟩, ⟨by simp, by simp⟩, by simp, fun p hp => by simp only [List.mem_cons, hp, or_true]⟩
theorem leave_onX {M : Model} {A : Around} {E : Value → Shared → Prop} {s' : Shared} {base g g₂ : Heap} {outer : List Env} {L a e : Addr} {m : Str → Option Value} {name : Str} {scope : Scope} {cd cls : Value} {cl : List (Str × Addr)} {Q : Unit → Shared → Prop} {news : List (Addr × Obj)}
    (K : Below A base outer g) (F : Fr g L g₂ m) (R : RaisedN base (envX name scope L a cd cl :: outer) e cls news s'.heap) (hsm : g₂.UpToSlots s'.heap)
    (hQ : ∀ h', RaisedN base outer e cls news h' → g.UpToSlots h' → Q () { s' with heap := h' }) :
    wpAny M (A.deeper (envX name scope L a cd cl)) (leaving (envX name scope L a cd cl) (.ref e)) Q E s' := by
  refine gl fun G9 hG9 => ?_
  obtain ⟨B, a0, hB, hl, hfl⟩ := R
  refine hG9 ?_
  clear hG9 G9
  exact wpAny_leaves_onW (Around.frames_deeper K.stack) rfl hfl fun h' x1 x2 => hQ h' ⟨B, a0, hB, hl, x1⟩ ((Heap.UpToSlots.of_keeps F.keep).trans (hsm.trans x2))
end Part35
theorem wo99 : True := by
  w_top off
  trivial
theorem ln42 : True := by
  k_with "my call ref" => (k_here; refine hold_ref [239, 165, 143, 157, 246, 253, 284, 289, 301, 294, 228] rfl ?_)
  k_with "my exec For Tuple List cons nil" => (k_here; refine Hold.out ?_)
  k_with "my pyIter ref" => (k_here; (with_reducible show wpAny _ _ (pyIter (Value.ref _)) (fun it s₂ => TurnsAt _ _ _ _ _ _ _ _ _ it s₂) _ _); refine Hold.out ?_)
  k_with "my callWith ref" => (k_here; k_dflt (first | (refine' callWith_K ?k19q88 ?k29q88 ?_; (case k19q88 => k_asm); (case k29q88 => k_is); k_whole) | (refine' callWith_K0 ?k19q88 ?k29q88 ?_; (case k19q88 => k_in); (case k29q88 => k_is); k_whole)))
  k_with "my callWith ref nil nil" => (k_here; (with_reducible show wpAny _ _ (callWith _ (Value.ref _) [] (backTo _ (starEach [] _)) []) _ _ _); refine Hold.out ?_)
  k_with "my subscriptTail Call" => (k_here; refine Hold.out ?_)
  trivial
theorem fr_any {h₀ h : Heap} {L : Addr} {m : Str → Option Value} (F : Fr h₀ L h m) (x : Str) {v : Value} (e : m x = some v) : ∃ m' : Str → Option Value, Fr h₀ L h (fun z => if z = x then some v else m' z) := ⟨m, fr_know F e⟩
theorem hn_of {h₀ g1 G h' : Heap} {L L1 L2 : Addr} {m m1 : Str → Option Value} {news : List (Addr × Obj)} (FG : Fr h₀ L g1 m) (F1 : Fr g1 L1 G m1) (N : News G L2 h' news) : ∀ q ∈ news, q.1 ≠ L ∧ q.1 ≠ L1 := by
  intro q hq
  refine gl fun G9 hG9 => ?_
  obtain ⟨o, _, _, ho, _⟩ := FG.ns
  refine hG9 ?_
  clear hG9 G9
  refine gl fun G9 hG9 => ?_
  obtain ⟨o1, _, _, ho1, _⟩ := F1.ns
  refine hG9 ?_
  clear hG9 G9
  have hn := (N q hq).2.2
  refine ⟨fun e => ?_, fun e => ?_⟩
  · rw [e, F1.keep _ _ ho] at hn; cases hn
  · rw [e, ho1] at hn; cases hn
theorem turn_end {h₀ : Heap} {L I C D : Addr} {oI oC oD : Obj} {m : Str → Option Value} {s₁ s' : Shared} {DL : Addr} {cs : Array Value} {n : Nat} {BL nw : List (Addr × Obj)} (F : Fr h₀ L s'.heap m)
    (N : News h₀ L s'.heap ((I, oI) :: (C, oC) :: (D, oD) :: nw)) (off : LCg.Off3 I C D nw) (hb : ∀ p ∈ BL, p ∈ nw) (hD : (DL, listOf cs n) ∈ BL) (e : s' = { s₁ with heap := s'.heap, toks := s'.toks }) :
    LCg.CompEnd h₀ L m s₁ I oI C oC D oD (LCg.SrcAt h₀ DL cs) (fun _ nw' => ([] : List Value) = [] ∧ ∀ p ∈ BL, p ∈ nw') Value.none s' := by
  rw [e]
  exact LCg.CompEnd.intro F N nw (fun p hp => hp) off (.inr ⟨_, hb _ hD, rfl, _, rfl⟩) ⟨rfl, hb⟩
theorem news_front {h₀ h : Heap} {L a : Addr} {o : Obj} {nw : List (Addr × Obj)} (N : News h₀ L h nw) (hm : (a, o) ∈ nw) : News h₀ L h ((a, o) :: nw.filter fun p => decide (p.1 ≠ a)) := fun p hp => by
  rcases List.mem_cons.mp hp with rfl | hp
  · exact N _ hm
  · exact N _ (List.mem_filter.mp hp).1
theorem mem_front {a b : Addr} {o : Obj} {ob : Obj} {nw : List (Addr × Obj)} (hne : @Ne Nat b a) (hm : (b, ob) ∈ nw) : (b, ob) ∈ (a, o) :: nw.filter fun p => decide (p.1 ≠ a) :=
  List.mem_cons_of_mem _ (List.mem_filter.mpr ⟨hm, by simpa using hne⟩)
theorem front_ne {a : Addr} {nw : List (Addr × Obj)} : ∀ p ∈ nw.filter fun p => decide (p.1 ≠ a), p.1 ≠ a := fun p hp => by simpa using (List.mem_filter.mp hp).2
set_option maxHeartbeats 8000000 in
theorem law_holds : PySem.Challenge.rw_pc0369_01.Holds := by
  w_on
  refine holds_law said1 fun said => ?_
  refine holds_open (q := hV) (loose := [Str.ofString "SettingError"]) (Xt := fun s => xlAt hV [] s && recOk (RowW.records PySem.Challenge.rw_pc0369_01.row.toRowW) s) (XP := XL hV []) (Yf := Hook.obs HK) (Ya := Hook.val HK) (YP := Hook.says (kmHook hK asK asK_ok [303])) (N := 4542) left1 (Hook.of HK) (Hook.keeps HK) (fun s e => xl_of s (Bool.and_eq_true_iff.mp e).1) XL.keeps (by rfl) (by rfl) (by rfl) (fun s e => recFacts_of (Bool.and_eq_true_iff.mp e).2) (by rfl) y6 (by decide +kernel) ⟨rfl, rfl, rfl, rfl, rfl, by decide +kernel⟩ ?hw ?hc
  case hw => w_witness2
  clear said
  k_go0
  all_goals (try k_fold)
  rename_i w s0 s1 mg mb G Y fa o pm doc ho hg X0 V T0 B0 TE TW hcd ns hs hlay0 hL1 hr1 hl2 w6 w5 l vs w2 hL2 ra w1 r0 hI hr2 hcond hc2 hD h1 tk1 c2 c1 cd2 cd1 Y0 X T K F N l0
  refine wpAny_mono (Q := fun f s' => Hold (f = .ret (.bool true) ∧ ∃ h' tk' m', s' = { s1 with heap := h', toks := tk' } ∧ Fr (ghostOf s1.heap [(305, 303)]) s1.heap.objs.size h' m' ∧ GrownAt 303 h')) (E := fun _ _ => False) ?walk ?post (fun _ _ x => x.elim)
  case post =>
    intro f s' hq
    obtain ⟨rfl, h', tk', m', rfl, F', G'⟩ := Hold.out hq
    exact ⟨goodW_bool F' hg (raisesW_false (by wrow_none_raised)) (by wrow_post), G', trivial⟩

  case walk =>
    have ce1 : c1.data = .cell none := cd1
    have ce2 : c2.data = .cell none := cd2
    obtain ⟨m₀, F9⟩ := fr_any F (Str.ofString "script") rfl
    clear F Y0 cd1 cd2 hD hc2 hr2 r0 w1 ra hL2 w2 w5 w6 hl2 hr1 hL1 hlay0 hs hcd TW TE B0 T0 V X0 hg ho o Y G
    rename Heap.IsList _ _ _ => hIL
    rename CodeHd _ _ _ => hCode
    generalize hgo : ghostOf s1.heap [(305, 303)] = h₀ at *
    clear hgo
    generalize s1.heap.objs.size = L at *
    dsimp only
    k_steps
    refine Hold.mk ?_
    k_dflt (refine' source_c ?k1 ?k2 ?k3 ?k4 ?k5 ?N ?hl ?hi ?len ?d ?u ?_; (case k1 => k_asm); (case k2 => k_asm); (case k3 => k_asm); (case k4 => k_asm); (case k5 => first | exact rfl | assumption); (case N => k_asm); (case hl => assumption); (case hi => assumption); (case len => omega); (case d => k_room); (case u => k_units))
    intro src so hh1 tkk1 hS F1 N1 l1
    (try k_lt l1)
    (try dsimp only at N1 ⊢)
    (try k_fold)
    k_steps
    rename News h₀ L _ _ => NI
    refine Hold.mk ?_
    k_dflt (refine' init_c (ws := [1, 3]) (most := 9) (moct := 99) ?k1 ?k2 ?k3 ?k4 ?k5 ?N ?xm ?xm2 ?xi ?xb ?xl ?xl0 ?xlim ?xleq ?xa1 ?xa2 ?xd ?xu ?_; (case k1 => k_asm); (case k2 => k_asm); (case k3 => k_asm); (case k4 => k_asm); (case k5 => first | exact rfl | assumption); (case N => k_asm); (case xm => k_mem); (case xm2 => k_mem); (case xi => exact .cons _ _ (.cons _ _ .nil)); (case xb => decide); (case xl => exact Nat.le_of_ble_eq_true rfl); (case xl0 => exact Nat.zero_lt_succ _); (case xlim => (intro v hv; simp only [List.mem_cons, List.not_mem_nil, or_false] at hv; rcases hv with rfl | rfl <;> exact ⟨_, _, _, _, rfl, by k_mem⟩)); (case xleq => rfl); (case xa1 => decide); (case xa2 => decide); (case xd => k_room); (case xu => k_units))
    intro q0 hq1 tkq nwq U0 U1 dv htm hst hla hrl hrow qi nq fq kq Fq1 Nq1
    (try dsimp only at Nq1 ⊢)
    (try k_fold)
    rename @Eq Data _ (Data.cell (some (Value.ref src))) => dc1
    have hoc := kq (L + 1 + 1, c2) (by k_mem)
    have Nq2 : News h₀ L hq1 ((L + 1 + 1, c2) :: nwq.filter fun p => decide (p.1 ≠ L + 1 + 1)) := fun p hp => by
      rcases List.mem_cons.mp hp with rfl | hp
      · exact Nq1 _ hoc
      · exact Nq1 _ (List.mem_filter.mp hp).1
    have hnf : ∀ p ∈ nwq.filter fun p => decide (p.1 ≠ L + 1 + 1), p.1 ≠ L + 1 + 1 := fun p hp => by simpa using (List.mem_filter.mp hp).2
    clear Nq1
    have LS := fun (c9 : Obj) (base : List (Addr × Obj)) => law_start (base := base) (c2 := c9) qi nq fq kq (fun r hr => (hrow r hr).2.2.2.1) hS (src := src) (qc := L + 1 + 1) (so := so) (by k_mem) ⟨c2, by k_mem⟩ (by k_ne)
    obtain ⟨u, M⟩ := ex_init U0 dv htm hst hla hrl hrow
    generalize hFL : (nwq.filter fun p => decide (p.1 ≠ L + 1 + 1)) = FL at *
    clear qi nq fq kq U0 U1 dv htm hst hla hrl hrow NI hoc
    k_steps
    refine Hold.mk ?_
    rename Fr h₀ L _ _ => FT0
    refine' For_turns (h₀ := h₀) ?ff ?fa ?fb ?fc
    case ff => exact FT0
    case fb => intro _; rfl
    case fc => exact PassesOwn.never
    k_steps
    refine Hold.mk ?_
    rename @Eq Data _ (Data.cell (some (Value.ref q0.x))) => dc2
    obtain ⟨oc, eoc, dc1'⟩ := dat_name dc1
    subst eoc
    obtain ⟨oq, eoq, dc2'⟩ := dat_name dc2
    subst eoq
    clear dc1 dc2
    rename News h₀ L _ _ => NP
    rename Fr h₀ L _ _ => FP
    obtain ⟨S0, hs0⟩ := LS oq [(L + 1 + 1, oq), (L + 1, oc), (303, tabObj #[])] (fun p hp => by
      simp only [List.mem_cons, List.not_mem_nil, or_false] at hp
      rcases hp with rfl | rfl | rfl
      · exact .inl rfl
      · exact .inr ⟨by k_mem, by show @Ne Nat _ _; omega, by show @Ne Nat _ _; omega⟩
      · exact .inr ⟨by k_mem, by show @Ne Nat _ _; omega, by show @Ne Nat _ _; omega⟩)
    clear LS
    refine gl fun G9 hG9 => ?_
    obtain ⟨NW, BX, vs5, NX, S5, hs5, hB5, m5, hP5, hv5, ev5⟩ := ex_begin NP S0 hs0 (by assumption) (by assumption) (by assumption) (by assumption) (by assumption) (by assumption)
    refine hG9 ?_
    clear hG9 G9
    have bq := hB5 (L + 1 + 1, oq) (by simp)
    have bc := hB5 (L + 1, oc) (by simp)
    have bt := hB5 (303, tabObj #[]) (by simp)
    clear NP S0 hs0 hB5 hnf hFL
    refine' iter_listTurns (h₀ := h₀) (news := NW) (vs := vs5) (lo := listOf vs5.toArray 0) (n := 0) ?ga ?gb ?gc ?gd ?ge ?gf ?gg
    case ga => rfl
    case gb => exact FP
    case gc => exact NX
    case gd => exact S5.bk _ m5
    case ge => rfl
    case gf => rfl
    case gg =>
      intro I hI
      refine' items_list (fun i m₁ n => ∃ q, oq.data = .cell (some (.ref q.x)) ∧ Qst w BX [src] n q ∧ SrcIn PySem.Challenge.rw_pc0369_01.row.prog w n src ∧ (∀ p ∈ n, @Ne Nat p.1 I) ∧ ExQ u (exPut i).1.1 (exPut i).1.2 (exPut i).2.1 (exPut i).2.2 q) ?hqa ?hqb ?hqc ?hqd
      case hqa =>
        rintro i m₁ n ⟨q, _, S, _⟩
        exact ⟨S.bk _ m5, trivial⟩
      case hqb => exact ⟨q0, dc2', S5, hs5, fun p hp => Nat.ne_of_lt (hI p hp), M⟩
      case hqd =>
        rintro i x m₁ n h tk hx HH9 F1
        refine gl fun G9 hG9 => ?_
        obtain ⟨q, dq, S, hs, hne, M1⟩ := HH9
        refine hG9 ?_
        clear hG9 G9
        refine AllObj.cons fun oI hcI => AllObj.nil fun N1 => ?_
        replace N1 : News h₀ L h ((I, oI) :: n) := N1
        replace F1 : Fr h₀ L h m₁ := F1
        obtain ⟨T, k, size, u1, u2, n1, rfl, hT, hpk⟩ := hP5 i x hx
        have S2 := S.iter (oI := oI) hne
        have hs2 : SrcIn PySem.Challenge.rw_pc0369_01.row.prog w ((I, oI) :: n) src := hs.up
        have mT := S.bk _ hT
        have mq := S.bk _ bq
        have hbI : ∀ p ∈ BX, @Ne Nat p.1 I := fun p hp => hne p (S.bk p hp)
        have hsI : @Ne Nat src I := by obtain ⟨so, b1, _⟩ := hs; exact hne _ b1
        refine gl fun G9 hG9 => ?_
        obtain ⟨mqa, ⟨_, _, _, _, _, _, _, _, mqb⟩, _⟩ := S2.qi
        refine hG9 ?_
        clear hG9 G9
        clear FP NX S5 hs5 M S hs dc2'
        k_steps
        have qf := M1.facts (exput_len i).1 (exput_len i).2.1 (exput_len i).2.2.1 (exput_len i).2.2.2
        have hkk := exput_k hpk
        rename News h₀ L _ _ => NX
        refine Hold.mk ?_
        k_dflt (refine' put_c (q := q) (k := k) ?k1 ?k2 ?k3 ?k4 ?k5 ?N ?yo ?yn ?ya ?yb ?yc ?yd ?ye ?yf1 ?yf2 ?yg ?yu ?_; (case k1 => k_asm); (case k2 => k_asm); (case k3 => k_asm); (case k4 => k_asm); (case k5 => first | exact rfl | assumption); (case N => k_asm); (case yo => exact S2.qi); (case yn => exact S2.nq); (case ya => rw [qf.1]; exact hkk.1); (case yb => rw [qf.1]; decide); (case yc => exact qf.2.1); (case yd => exact qf.2.2.1); (case ye => exact qf.2.2.2 _ (by omega)); (case yf1 => exact hkk.2.1); (case yf2 => omega); (case yg => k_room); (case yu => k_units))
        intro q3 h16 tk16 nw16 hP hq3 hnq3 hfq3 hk16 F16 N16
        have S6 := S2.qstep hq3 hnq3 hfq3 hk16
        have hs6 := hs2.keeps (S2.qe src (List.mem_singleton.mpr rfl)) hk16
        have M2 := expstep hpk M1 hP
        (try dsimp only at N16 ⊢)
        (try k_fold)
        k_steps
        rename News h₀ L _ _ => NZ
        rename Fr h₀ L _ _ => FZ
        exact unrW_end FZ NZ (S6.bk _ (List.mem_cons_self ..)) ⟨q3, by rw [hP.keep]; exact dq, S6.dropI NZ (by rw [hcI]; simp) hbI, hs6.offI hsI, fun p hp => by simpa using (List.mem_filter.mp hp).2, M2⟩
      case hqc =>
        rintro m₁ n h tk HH9 F1 N1
        refine gl fun G9 hG9 => ?_
        obtain ⟨q, dq, S, hs, _, M1⟩ := HH9
        refine hG9 ?_
        clear hG9 G9
        rw [hv5] at M1
        have M2 : ExT u (exTab 0).1 (exTab 0).2 q := M1.take
        clear M1 M S5 NX hs5 FP hP5 ev5 hI
        replace F1 : Fr h₀ L h m₁ := F1
        replace N1 : News h₀ L h n := N1
        have mq := S.bk _ bq
        k_steps
        rename IsRange _ _ _ _ _ _ _ _ => hR
        (try dsimp only at hR ⊢)
        refine' Hold.mk (LCg.CompSrc.range (a := 0) (b := 5) (n := 5) (news := n) ?ua ?ub ?uc ?ud ?ue ?uf ?ug ?uh)
        case ub => k_asm
        case uc => k_asm
        case ud => exact hR
        case ua => rfl
        case ue => decide
        case uf => decide
        case ug => rw [sizeLine_eq]; decide
        intro g
        (try dsimp only)
        refine' rest_start (fun _ i ys nw => ∃ q, oq.data = .cell (some (.ref q.x)) ∧ Qst w BX [src] nw q ∧ SrcIn PySem.Challenge.rw_pc0369_01.row.prog w nw src ∧ ExT u (exTab i).1 (exTab i).2 q ∧ IntsAre ys (exNext.take i)) ?ra ?rb ?rc
        case ra => exact ⟨q, dq, S, hs, M2, .nil⟩
        rotate_left
        · rintro i v ys nw J9 oI C oC D m₂ h9 tk9 E' hi9 hv9 HH9 hC hx' F9 N9 off ne
          refine gl fun G9 hG9 => ?_
          obtain ⟨q2, dq2, S2, hs2, M3, hy⟩ := HH9
          refine hG9 ?_
          clear hG9 G9
          have mq2 := S2.bk _ bq
          refine gl fun G9 hG9 => ?_
          obtain ⟨mqa, ⟨_, _, _, _, _, _, _, _, mqb⟩, _⟩ := S2.qi
          refine hG9 ?_
          clear hG9 G9
          have qf := M3.facts (extab_len i).1 (extab_len i).2
          clear S hs M2 mq
          k_steps
          refine Hold.mk ?_
          k_dflt (refine' take_c0 (q := q2) ?k1 ?k2 ?k3 ?k4 ?k5 ?N ?wm ?wn ?wi ?wb ?wd ?wu ?_ ?_; (case k1 => k_asm); (case k2 => k_asm); (case k3 => k_asm); (case k4 => k_asm); (case k5 => first | exact rfl | assumption); (case N => k_asm); (case wm => exact S2.qi.mono fun p hp => List.mem_cons_of_mem _ (List.mem_cons_of_mem _ (List.mem_cons_of_mem _ hp))); (case wn => exact S2.nq); (case wi => exact qf.1); (case wb => exact qf.2); (case wd => k_room); (case wu => k_units))
          · intro h5 tk5 hc F5 N5
            exact absurd hc (excands hi9 M3)
          · intro q3 kk size thing T9 n9 u1 u2 u3 h5 tk5 nw5 hb3 hT3 hq3 hadr3 mT3 hfT3 hk5 F5 N5
            have M4 := exstep hi9 M3 hb3 hT3
            (try dsimp only at N5 ⊢)
            (try k_fold)
            k_steps
            refine Hold.mk (my_trip0 (by k_asm) mT3 ?_)
            k_steps
            rename News h₀ L _ _ => NZ
            rename Fr h₀ L _ _ => FZ
            refine Hold.mk (take_end FZ NZ off S2 hs2 hT3 hq3 hadr3 hk5 fun nw' S' hs' => ⟨q3, by rw [hT3.keep]; exact dq2, S', hs', M4.2, ints_take hy M4.1⟩)
        · rintro yv nw HH9 so h9 tk9 F9 N9 o9
          refine gl fun G9 hG9 => ?_
          obtain ⟨q2, dq2, S2, hs2, M3, hy⟩ := HH9
          refine hG9 ?_
          clear hG9 G9
          have hb2 := S2.bk
          have mc := hb2 _ bc
          have hbs : ∀ p ∈ BX, p.1 ≠ src := fun p hp e => S2.be p hp (List.mem_singleton.mpr e)
          have hs3 : ∀ p ∈ [(L + 1, oc), (303, tabObj #[])], p ∈ nw ∧ p.1 ≠ src := fun p hp => by
            simp only [List.mem_cons, List.not_mem_nil, or_false] at hp
            rcases hp with rfl | rfl
            · exact ⟨hb2 _ bc, hbs _ bc⟩
            · exact ⟨hb2 _ bt, hbs _ bt⟩
          clear M3 S2 S hs M2 mq dq2
          k_steps
          rename News h₀ L _ _ => NX
          refine Hold.mk ?_
          k_dflt (refine' next_m ?k1 ?k2 ?k3 ?k4 ?k5 ?N ?vS ?vd ?vu ?vt1 ?vt2 ?_; (case k1 => k_asm); (case k2 => k_asm); (case k3 => k_asm); (case k4 => k_asm); (case k5 => first | exact rfl | assumption); (case N => k_asm); (case vS => exact hs2.up.up); (case vd => k_room); (case vu => k_units); (case vt1 => decide); (case vt2 => decide))
          intro r5 tr5 h12 tk12 nw12 hr50 hr51 hs12 hk12 F12 N12
          obtain ⟨BZ, eBZ⟩ : ∃ BZ, [(L + 1, oc), (303, tabObj #[])] = BZ := ⟨_, rfl⟩
          have hBZ : ∀ p ∈ BZ, p ∈ nw12 := fun p hp => by rw [← eBZ] at hp; exact hk12 _ (List.mem_cons_of_mem _ (List.mem_cons_of_mem _ (hs3 p hp).1)) (fun e => (hs3 p hp).2 (List.mem_singleton.mp e))
          have hBs : ∀ p ∈ BZ, @Ne Nat p.1 src := fun p hp => by rw [← eBZ] at hp; exact (hs3 p hp).2
          have zc : (L + 1, oc) ∈ BZ := by rw [← eBZ]; simp
          have zt : (303, tabObj #[]) ∈ BZ := by rw [← eBZ]; simp
          obtain ⟨c, rfl⟩ := Int.eq_ofNat_of_zero_le hr50
          have hc3 : c < 3 := by omega
          clear eBZ hs3 hk12 NX hs2 hb2 hbs mc o9 hy bq bc bt
          (try dsimp only at N12 ⊢)
          (try k_fold)
          have mc := hBZ _ zc
          k_steps
          rename IsRange _ _ _ _ _ _ _ _ => hR
          (try dsimp only at hR ⊢)
          have hz : Builtin.Range.rangeSize 0 (2 + (c : Int)) 1 = ((2 + c : Nat) : Int) := by have h := rangeSize_nat 0 (2 + c); simp at h; rw [h]; omega
          refine Hold.mk (LCg.CompSrc.range (a := 0) (b := 2 + (c : Int)) (n := 2 + c) (by rfl) (by k_asm) (by k_asm) hR (small_one (by omega) (by omega) (by omega) (by omega)) hz (by rw [sizeLine_eq]; omega) fun g => ?_)
          (try dsimp only)
          refine rest_start (fun _ i ys nw => DrawJ PySem.Challenge.rw_pc0369_01.row.prog w src BZ 1 7 i ys nw) ⟨hs12, hBZ, [], .nil, rfl, fun _ h => (nomatch h)⟩ ?_ ?_
          rotate_left
          · rintro i v ys nw J9 oI C oC D m₂ h tk E' hi9 hv9 J hC hx' F9 N9 off ne
            have mc2 := J.2.1 _ zc
            k_steps
            rename News h₀ L _ _ => NX
            refine Hold.mk ?_
            k_dflt (refine' pick_m ?k1 ?k2 ?k3 ?k4 ?k5 ?N ?vS ?vm ?vd ?vu ?vt1 ?vt2 ?_; (case k1 => k_asm); (case k2 => k_asm); (case k3 => k_asm); (case k4 => k_asm); (case k5 => first | exact rfl | assumption); (case N => k_asm); (case vS => exact J.1.up.up.up.up); (case vm => k_mem); (case vd => k_room); (case vu => k_units); (case vt1 => exact Nat.zero_lt_succ _); (case vt2 => simp only [List.length_cons, List.length_nil]; omega))
            intro v2 h14 tk14 nw14 hv hs14 hk14 F14 N14
            obtain ⟨x, tx, rfl, hx1⟩ := weights_mem hv
            (try dsimp only at N14 ⊢)
            (try k_fold)
            k_steps
            rename News h₀ L _ _ => NZ
            rename Fr h₀ L _ _ => FZ
            refine Hold.mk (draw_step FZ NZ J off hBs hs14 hk14.tail hx1)
          · rintro yv nw HH9 wl h9 tk9 F9 N9 o9
            refine gl fun G9 hG9 => ?_
            obtain ⟨hs2, hb2, ls, hy, hlen, hls⟩ := HH9
            refine hG9 ?_
            clear hG9 G9
            have nws := off1_src o9 hs2
            have mc2 := hb2 _ zc
            clear hBZ mc hs12
            k_steps
            refine Hold.mk ?_
            k_dflt (refine' deeds_c (ws := ls) ?k1 ?k2 ?k3 ?k4 ?k5 ?N ?vS ?vw ?vi ?vb ?vl ?vl1 ?vd ?vu ?_; (case k1 => k_asm); (case k2 => k_asm); (case k3 => k_asm); (case k4 => k_asm); (case k5 => first | exact rfl | assumption); (case N => k_asm); (case vS => exact hs2.up); (case vw => k_mem); (case vi => exact hy); (case vb => exact hls); (case vl => omega); (case vl1 => omega); (case vd => k_room); (case vu => k_units))
            intro h15 tk15 nw15 hs15 hk15 F15 N15
            have hB15 : ∀ p ∈ BZ, p ∈ nw15 := fun p hp => hk15 _ (List.mem_cons_of_mem _ (hb2 p hp)) (fun e => hBs p hp (List.mem_singleton.mp e))
            have mw : (wl, LCg.lst yv) ∈ nw15 := hk15 _ (List.mem_cons_self ..) (fun e => nws (List.mem_singleton.mp e))
            have mc3 := hB15 _ zc
            clear hs2 hb2 mc2 N9 hk15 o9
            (try dsimp only at N15 ⊢)
            (try k_fold)
            k_steps
            rename IntsAre _ (List.take 2 ls) => hI2
            obtain ⟨w0, w1, b0, b1, rfl, i0, i1⟩ := take2 hI2 (by omega)
            rename News h₀ L _ _ => NX
            refine Hold.mk ?_
            k_dflt (refine' bound_c (w0 := w0) (w1 := w1) (a0 := b0) (a1 := b1) ?k1 ?k2 ?k3 ?k4 ?k5 ?N ?vS ?vw ?vb ?vl ?vd ?vu ?_; (case k1 => k_asm); (case k2 => k_asm); (case k3 => k_asm); (case k4 => k_asm); (case k5 => first | exact rfl | assumption); (case N => k_asm); (case vS => exact hs15.up); (case vw => exact List.mem_cons_self ..); (case vb => exact hls _ i0); (case vl => exact hls _ i1); (case vd => k_room); (case vu => k_units))
            intro h16 tk16 nw16 hs16 hk16 F16 N16
            have hB16 : ∀ p ∈ BZ, p ∈ nw16 := fun p hp => hk16 _ (List.mem_cons_of_mem _ (hB15 p hp)) (fun e => hBs p hp (List.mem_singleton.mp e))
            have hs17 := hs16.tab (P := 303) (o := tabObj #[]) (by omega)
            have mc4 := hB16 _ zc
            have mt4 := hB16 _ zt
            have N17 : News h₀ L h16 ((303, tabObj #[]) :: nw16.filter fun p => decide (p.1 ≠ 303)) := fun p hp => by
              rcases List.mem_cons.mp hp with rfl | hp
              · exact N16 _ mt4
              · exact N16 _ (List.mem_filter.mp hp).1
            have hn17 : ∀ p ∈ nw16.filter fun p => decide (p.1 ≠ 303), @Ne Nat p.1 303 := fun p hp => by simpa using (List.mem_filter.mp hp).2
            have mc5 : (L + 1, oc) ∈ nw16.filter fun p => decide (p.1 ≠ 303) := List.mem_filter.mpr ⟨mc4, by simp; omega⟩
            generalize (nw16.filter fun p => decide (p.1 ≠ 303)) = FZ at *
            clear N16 hB16 hs16 mc4 mt4 hk16 hB15 mc3 hs15 NX hI2 i0 i1 mw hBs zc zt hy hls
            (try dsimp only at N17 ⊢)
            (try k_fold)
            k_steps
            rename News h₀ L _ _ => NL
            rename Fr h₀ L _ _ => FL9
            refine gl fun G9 hG9 => ?_
            obtain ⟨BL, NB, hsL, hD, ⟨m0, n0⟩, ⟨m1, n1⟩, ⟨m2, n2⟩, ⟨m3, n3⟩, mt, hR⟩ := law_lams NL hs17 (by omega)
            refine hG9 ?_
            clear hG9 G9
            have mc6 := hR _ mc5
            clear NL hs17 hR mc5
            (try dsimp only at FL9 NB ⊢)
            refine' Hold.mk (LCt.CompSrcT.ledger (news := BL) ?ua ?ub ?uc ?ud ?ue ?uf)
            case ub => exact FL9
            case uc => exact NB
            case ud => exact hD
            case ua => rfl
            case ue => rw [sizeLine_eq]; exact Nat.le_of_ble_eq_true rfl
            intro g
            (try dsimp only)
            refine' restT_start (fun _ i ys nw => ys = [] ∧ ∀ p ∈ BL, p ∈ nw) ?ta ?tb ?tc
            case ta => exact ⟨rfl, fun p hp => hp⟩
            rotate_left
            · rintro i v ys nw J9 oI C oC D9 m₂ h tk E' hi9 hv9 ⟨rfl, hb⟩ hC hx' F9 N9 off ne
              have hi4 := lt4 hi9
              clear hi9 NB FL9
              rcases hi4 with rfl | rfl | rfl | rfl
              · simp at hv9
                subst hv9
                have mf := hb _ m0
                have mn := hb _ n0
                k_steps
                refine Hold.mk (wpAny_call ?_)
                k_dflt (refine' code_raw ?k1 ?k2 ?k3 ?k4 ?k5 ?kA ?kF ?kK ?k6 ?k7 ?k8 ?k9 ?kB ?_ ?c2 ?c3 ?c4 ?c5; (case kA => exact rfl); (case kF => exact rfl); (case kK => first | exact rfl | assumption); (case k1 => k_asm); (case k2 => k_asm); (case k3 => k_asm); (case k4 => k_asm); (case k5 => k_asm); (case k6 => k_is); (case k7 => k_is); (case k8 => k_room); (case k9 => exact BindsTo.of_eq rfl); (case c5 => decide); (case kB => exact locs rfl); (case c2 => exact rfl); (case c3 => exact rfl); (case c4 => exact rfl); k_whole)
                intro g1 L1 h1 FG1 F1 N1 B1 X1 T1 hn1
                (try dsimp only)
                (try k_fold)
                k_steps
                rename News g1 L1 _ _ => NQ
                refine' Hold.mk (callWith_F0 ?va0 ?vb0)
                case va0 => exact FnAt.of NQ (List.mem_cons_of_mem _ (List.mem_cons_of_mem _ (List.mem_cons_of_mem _ mf)))
                (try dsimp only [List.nil_append])
                k_steps
                refine Hold.mk ?_
                k_dflt (refine' init_r (wv := []) (lv := []) ?k1 ?k2 ?k3 ?k4 ?k5 ?N ?iw ?il ?iv ?id ?iu ?_; (case k1 => k_asm); (case k2 => k_asm); (case k3 => k_asm); (case k4 => k_asm); (case k5 => first | exact rfl | assumption); (case N => k_asm); (case iw => k_mem); (case il => k_mem); (case iv => exact .inl ⟨rfl, rfl⟩); (case id => k_room); (case iu => k_units))
                intro e h2 g2 tk2 R2 FG2 U2
                (try dsimp only)
                refine' leave_onX ?lva0 ?lvb0 ?lvc0 ?lvd0 ?lve0
                case lvc0 => exact R2
                case lvb0 => exact FG2
                case lvd0 => exact U2
                case lva0 => k_asm
                intro h3 R3 U3
                (try dsimp only)
                rename Fr g1 L1 _ _ => FGa
                rename News _ _ _ _ => Na
                refine' caught_mine (G := _) ?cma0 ?cmb0 ?cmc0 ?cmd0 ?cme0 ?cmf0 ?cmg0 ?cmh0 ?cmi0 ?cmj0 ?cmk0 ?cml0
                case cmb0 => exact R3
                case cma0 => exact B1.stack
                case cmc0 => exact FG1
                case cmd0 => exact FGa
                case cme0 => exact U3
                case cmf0 => exact hn_of FG1 FGa Na
                case cmg0 => k_asm
                case cmh0 => k_asm
                case cmi0 => k_is
                case cmj0 => k_is
                case cmk0 => decide +kernel
                intro h4 Fi4 Fo4 Ni4 No4
                (try dsimp only)
                k_steps
                refine Hold.mk (turn_end Fo4 (fun p hp => No4 p (by (repeat (first | exact hp | refine List.mem_cons_of_mem _ ?_)))) off hb hD rfl)
              · simp at hv9
                subst hv9
                have mf := hb _ m1
                have mn := hb _ n1
                k_steps
                refine Hold.mk (wpAny_call ?_)
                k_dflt (refine' code_raw ?k1 ?k2 ?k3 ?k4 ?k5 ?kA ?kF ?kK ?k6 ?k7 ?k8 ?k9 ?kB ?_ ?c2 ?c3 ?c4 ?c5; (case kA => exact rfl); (case kF => exact rfl); (case kK => first | exact rfl | assumption); (case k1 => k_asm); (case k2 => k_asm); (case k3 => k_asm); (case k4 => k_asm); (case k5 => k_asm); (case k6 => k_is); (case k7 => k_is); (case k8 => k_room); (case k9 => exact BindsTo.of_eq rfl); (case c5 => decide); (case kB => exact locs rfl); (case c2 => exact rfl); (case c3 => exact rfl); (case c4 => exact rfl); k_whole)
                intro g1 L1 h1 FG1 F1 N1 B1 X1 T1 hn1
                (try dsimp only)
                (try k_fold)
                k_steps
                rename News g1 L1 _ _ => NQ
                refine' Hold.mk (callWith_F0 ?va1 ?vb1)
                case va1 => exact FnAt.of NQ (List.mem_cons_of_mem _ (List.mem_cons_of_mem _ (List.mem_cons_of_mem _ mf)))
                (try dsimp only [List.nil_append])
                k_steps
                refine Hold.mk ?_
                k_dflt (refine' init_r (wv := [.int 0 _]) (lv := [_]) ?k1 ?k2 ?k3 ?k4 ?k5 ?N ?iw ?il ?iv ?id ?iu ?_; (case k1 => k_asm); (case k2 => k_asm); (case k3 => k_asm); (case k4 => k_asm); (case k5 => first | exact rfl | assumption); (case N => k_asm); (case iw => k_mem); (case il => k_mem); (case iv => exact .inr ⟨_, _, rfl, rfl⟩); (case id => k_room); (case iu => k_units))
                intro e h2 g2 tk2 R2 FG2 U2
                (try dsimp only)
                refine' leave_onX ?lva1 ?lvb1 ?lvc1 ?lvd1 ?lve1
                case lvc1 => exact R2
                case lvb1 => exact FG2
                case lvd1 => exact U2
                case lva1 => k_asm
                intro h3 R3 U3
                (try dsimp only)
                rename Fr g1 L1 _ _ => FGa
                rename News _ _ _ _ => Na
                refine' caught_mine (G := _) ?cma1 ?cmb1 ?cmc1 ?cmd1 ?cme1 ?cmf1 ?cmg1 ?cmh1 ?cmi1 ?cmj1 ?cmk1 ?cml1
                case cmb1 => exact R3
                case cma1 => exact B1.stack
                case cmc1 => exact FG1
                case cmd1 => exact FGa
                case cme1 => exact U3
                case cmf1 => exact hn_of FG1 FGa Na
                case cmg1 => k_asm
                case cmh1 => k_asm
                case cmi1 => k_is
                case cmj1 => k_is
                case cmk1 => decide +kernel
                intro h4 Fi4 Fo4 Ni4 No4
                (try dsimp only)
                k_steps
                refine Hold.mk (turn_end Fo4 (fun p hp => No4 p (by (repeat (first | exact hp | refine List.mem_cons_of_mem _ ?_)))) off hb hD rfl)
              · simp at hv9
                subst hv9
                have mf := hb _ m2
                have mn := hb _ n2
                k_steps
                refine Hold.mk (wpAny_call ?_)
                k_dflt (refine' code_raw ?k1 ?k2 ?k3 ?k4 ?k5 ?kA ?kF ?kK ?k6 ?k7 ?k8 ?k9 ?kB ?_ ?c2 ?c3 ?c4 ?c5; (case kA => exact rfl); (case kF => exact rfl); (case kK => first | exact rfl | assumption); (case k1 => k_asm); (case k2 => k_asm); (case k3 => k_asm); (case k4 => k_asm); (case k5 => k_asm); (case k6 => k_is); (case k7 => k_is); (case k8 => k_room); (case k9 => exact BindsTo.of_eq rfl); (case c5 => decide); (case kB => exact locs rfl); (case c2 => exact rfl); (case c3 => exact rfl); (case c4 => exact rfl); k_whole)
                intro g1 L1 h1 FG1 F1 N1 B1 X1 T1 hn1
                (try dsimp only)
                (try k_fold)
                k_steps
                rename News g1 L1 _ _ => NQ
                refine' Hold.mk (callWith_F0 ?va2 ?vb2)
                case va2 => exact FnAt.of NQ (List.mem_cons_of_mem _ (List.mem_cons_of_mem _ (List.mem_cons_of_mem _ mf)))
                (try dsimp only [List.nil_append])
                k_steps
                refine Hold.mk ?_
                k_dflt (refine' drop_r ?k1 ?k2 ?k3 ?k4 ?k5 ?N ?iv ?id ?iu ?_; (case k1 => k_asm); (case k2 => k_asm); (case k3 => k_asm); (case k4 => k_asm); (case k5 => first | exact rfl | assumption); (case N => k_asm); (case iv => exact .inl (by omega)); (case id => k_room); (case iu => k_units))
                intro e h2 g2 tk2 R2 FG2 U2
                (try dsimp only)
                refine' leave_onX ?lva2 ?lvb2 ?lvc2 ?lvd2 ?lve2
                case lvc2 => exact R2
                case lvb2 => exact FG2
                case lvd2 => exact U2
                case lva2 => k_asm
                intro h3 R3 U3
                (try dsimp only)
                rename Fr g1 L1 _ _ => FGa
                rename News _ _ _ _ => Na
                refine' caught_mine (G := _) ?cma2 ?cmb2 ?cmc2 ?cmd2 ?cme2 ?cmf2 ?cmg2 ?cmh2 ?cmi2 ?cmj2 ?cmk2 ?cml2
                case cmb2 => exact R3
                case cma2 => exact B1.stack
                case cmc2 => exact FG1
                case cmd2 => exact FGa
                case cme2 => exact U3
                case cmf2 => exact hn_of FG1 FGa Na
                case cmg2 => k_asm
                case cmh2 => k_asm
                case cmi2 => k_is
                case cmj2 => k_is
                case cmk2 => decide +kernel
                intro h4 Fi4 Fo4 Ni4 No4
                (try dsimp only)
                k_steps
                refine Hold.mk (turn_end Fo4 (fun p hp => No4 p (by (repeat (first | exact hp | refine List.mem_cons_of_mem _ ?_)))) off hb hD rfl)
              · simp at hv9
                subst hv9
                have mf := hb _ m3
                have mn := hb _ n3
                k_steps
                refine Hold.mk (wpAny_call ?_)
                k_dflt (refine' code_raw ?k1 ?k2 ?k3 ?k4 ?k5 ?kA ?kF ?kK ?k6 ?k7 ?k8 ?k9 ?kB ?_ ?c2 ?c3 ?c4 ?c5; (case kA => exact rfl); (case kF => exact rfl); (case kK => first | exact rfl | assumption); (case k1 => k_asm); (case k2 => k_asm); (case k3 => k_asm); (case k4 => k_asm); (case k5 => k_asm); (case k6 => k_is); (case k7 => k_is); (case k8 => k_room); (case k9 => exact BindsTo.of_eq rfl); (case c5 => decide); (case kB => exact locs rfl); (case c2 => exact rfl); (case c3 => exact rfl); (case c4 => exact rfl); k_whole)
                intro g1 L1 h1 FG1 F1 N1 B1 X1 T1 hn1
                (try dsimp only)
                (try k_fold)
                k_steps
                rename News g1 L1 _ _ => NQ
                refine' Hold.mk (callWith_F0 ?va3 ?vb3)
                case va3 => exact FnAt.of NQ (List.mem_cons_of_mem _ (List.mem_cons_of_mem _ (List.mem_cons_of_mem _ mf)))
                (try dsimp only [List.nil_append])
                k_steps
                refine Hold.mk ?_
                k_dflt (refine' drop_r ?k1 ?k2 ?k3 ?k4 ?k5 ?N ?iv ?id ?iu ?_; (case k1 => k_asm); (case k2 => k_asm); (case k3 => k_asm); (case k4 => k_asm); (case k5 => first | exact rfl | assumption); (case N => k_asm); (case iv => exact .inr ⟨by omega, by omega⟩); (case id => k_room); (case iu => k_units))
                intro e h2 g2 tk2 R2 FG2 U2
                (try dsimp only)
                refine' leave_onX ?lva3 ?lvb3 ?lvc3 ?lvd3 ?lve3
                case lvc3 => exact R2
                case lvb3 => exact FG2
                case lvd3 => exact U2
                case lva3 => k_asm
                intro h3 R3 U3
                (try dsimp only)
                rename Fr g1 L1 _ _ => FGa
                rename News _ _ _ _ => Na
                refine' caught_mine (G := _) ?cma3 ?cmb3 ?cmc3 ?cmd3 ?cme3 ?cmf3 ?cmg3 ?cmh3 ?cmi3 ?cmj3 ?cmk3 ?cml3
                case cmb3 => exact R3
                case cma3 => exact B1.stack
                case cmc3 => exact FG1
                case cmd3 => exact FGa
                case cme3 => exact U3
                case cmf3 => exact hn_of FG1 FGa Na
                case cmg3 => k_asm
                case cmh3 => k_asm
                case cmi3 => k_is
                case cmj3 => k_is
                case cmk3 => decide +kernel
                intro h4 Fi4 Fo4 Ni4 No4
                (try dsimp only)
                k_steps
                refine Hold.mk (turn_end Fo4 (fun p hp => No4 p (by (repeat (first | exact hp | refine List.mem_cons_of_mem _ ?_)))) off hb hD rfl)
            · rintro _ nw ⟨rfl, hb⟩ so9 h9 tk9 F9 N9 o9
              obtain ⟨so7, b1, b2⟩ := hsL
              have mc7 := hb _ mc6
              have mt7 := hb _ mt
              have ms7 := hb _ b1
              have hs3 : @Ne Nat 303 src := by omega
              clear mc6 mt b1 m0 m1 m2 m3 n0 n1 n2 n3 NB FL9
              k_steps
              rename News h₀ L _ _ => NX
              have NC := news_front NX (a := src) (o := so7) (by k_mem)
              refine Hold.mk ?_
              k_dflt (refine' curve_c (so := so7) ?k1 ?k2 ?k3 ?k4 ?k5 ?N ?ve ?vS ?vd ?vu ?_; (case k1 => k_asm); (case k2 => k_asm); (case k3 => k_asm); (case k4 => k_asm); (case k5 => first | exact rfl | assumption); (case N => exact NC); (case ve => exact front_ne); (case vS => exact b2); (case vd => k_room); (case vu => k_units))
              intro h7 tk7 so8 hS8 F7 N7
              clear NC NX
              (try dsimp only at N7 ⊢)
              (try k_fold)
              k_steps
              exact Hold.mk ⟨rfl, _, _, _, rfl, F7, GrownAt.of N7 (mem_front hs3 (List.mem_cons_of_mem _ (List.mem_cons_of_mem _ mt7)))⟩
end Mine
theorem PySem.Challenge.cw_pc0369_01_holds : PySem.Challenge.rw_pc0369_01.Holds := by
  exact Mine.law_holds
